import PyProof.Rows.All
import Wide.All
import OpenK.AllK
import Wide.FinOn
import HandS.ForMost
import HandS.Exc
import HandS.ExcOwn
import HandS.WordsExc
import HandS.CallSlots
import HandS.Wide
import HandS.Deep
import HandS.IsInst
import HandS.Flow
import HandS.ExcInit
import HandS.ExcIs
import HandS.ExcField
import KE.KExcIs
import PySem.Challenge.RW_grownfiles_k57_orders
set_option Elab.async false
set_option linter.all false
set_option maxRecDepth 100000
/-! TL: trees over the hand layer. Values are trees (tuples, and lists that nobody changes any more, are told by what they hold); only what is changed has an address. -/
namespace TL
open PySem L2

inductive T where
  | non | bl (b : Bool) | int (i : Int) | str (x : Str)
  | tup (ts : List T) | lst (ts : List T) | ins (C : Addr) (fs : List (Str × T))
  | ref (a : Addr) | ty (n : String) | scr (ns : List Int)
  | exc (a : Addr) (cls : Value) (d : Option Addr) (fs : List (Str × T))
  deriving Inhabited

/-- what stands at a followed address -/
inductive O where
  | lst (ts : List T) | ins (C : Addr) (fs : List (Str × T)) | pool
abbrev Hq := Addr → Option O
def put (h : Hq) (a : Addr) (o : O) : Hq := fun b => if b = a then some o else h b
def del (h : Hq) (a : Addr) : Hq := fun b => if b = a then none else h b
@[simp] theorem put_same {h : Hq} {a : Addr} {o : O} : put h a o a = some o := by unfold put; rw [if_pos rfl]
theorem put_ne {h : Hq} {a b : Addr} {o : O} (e : b ≠ a) : put h a o b = h b := by unfold put; rw [if_neg e]
@[simp] theorem put_put {h : Hq} {a : Addr} {o u : O} : put (put h a o) a u = put h a u := by funext b; unfold put; split <;> rfl
theorem put_id {h : Hq} {a : Addr} {o : O} (e : h a = some o) : put h a o = h := by
  funext b; unfold put; split
  · rename_i q; rw [q, e]
  · rfl
theorem del_put {h : Hq} {a : Addr} {o : O} (e : h a = none) : del (put h a o) a = h := by
  funext b; unfold del put; split
  · rename_i q; rw [q, e]
  · rfl
theorem ne_fresh {h : Hq} {a b : Addr} {o : O} (e : h a = some o) (n : h b = none) : a ≠ b := by
  intro q; rw [q, n] at e; cases e
theorem ne_fresh' {h : Hq} {a b : Addr} {o : O} (e : h a = some o) (n : h b = none) : b ≠ a := fun q => ne_fresh e n q.symm

def KL (K : PySem.W.Frag) (a : Addr) (xs : List V) : Prop :=
  ∃ (o : Obj) (its : Array Value) (n : Nat), K.lookup a = some o ∧ o.cls = .type "list" ∧ o.dict = none ∧ o.data = .seq its n ∧ its.size ≤ sizeLine ∧ Vals xs its.toList
def KT (K : PySem.W.Frag) (a : Addr) (xs : List V) : Prop :=
  ∃ (o : Obj) (its : Array Value) (n : Nat), K.lookup a = some o ∧ o.cls = .type "tuple" ∧ o.data = .seq its n ∧ its.size ≤ sizeLine ∧ Vals xs its.toList

/-- what nobody changes any more (s: told by trees; p: another's, not to be touched) -/
structure Fz where
  s : Addr → Prop
  p : Addr → Prop
def Fz.has (S : Fz) (a : Addr) : Prop := S.s a ∨ S.p a
mutual
inductive Rep (K : PySem.W.Frag) (S : Fz) (H : Hp) : V → T → Prop
  | non : Rep K S H .non .non
  | bl (b : Bool) : Rep K S H (.bl b) (.bl b)
  | int (i : Int) : Rep K S H (.int i) (.int i)
  | str (x : Str) : Rep K S H (.str x) (.str x)
  | tup {a : Addr} {vs : List V} {ts : List T} : S.s a → H a = some (.tup vs) → RepL K S H vs ts → Rep K S H (.ref a) (.tup ts)
  | tupK {a : Addr} {vs : List V} {ts : List T} : KT K a vs → RepL K S H vs ts → Rep K S H (.ref a) (.tup ts)
  | lst {a : Addr} {vs : List V} {ts : List T} : S.s a → H a = some (.lst vs) → RepL K S H vs ts → Rep K S H (.ref a) (.lst ts)
  | scr {a : Addr} {ns : List Int} : S.s a → Rd H a (.lst (ns.map V.int)) → Rep K S H (.ref a) (.scr ns)
  | scrK {a : Addr} {ns : List Int} : KL K a (ns.map V.int) → Rep K S H (.ref a) (.scr ns)
  | ins {a C dx : Addr} {fs : List (Str × V)} {gs : List (Str × T)} : S.s a → H a = some (.ins C dx fs) → RepF K S H fs gs → Rep K S H (.ref a) (.ins C gs)
  | ref (a : Addr) : Rep K S H (.ref a) (.ref a)
  | ty (n : String) : Rep K S H (.ty n) (.ty n)
  | exc {a dd : Addr} {cls : Value} {fs : List (Str × V)} {gs : List (Str × T)} : S.s dd → H dd = some (.xd fs) → RepF K S H fs gs → Rep K S H (.ref a) (.exc a cls (some dd) gs)
  | exc0 {a : Addr} {cls : Value} : Rep K S H (.ref a) (.exc a cls none [])
inductive RepL (K : PySem.W.Frag) (S : Fz) (H : Hp) : List V → List T → Prop
  | nil : RepL K S H [] []
  | cons {v : V} {vs : List V} {t : T} {ts : List T} : Rep K S H v t → RepL K S H vs ts → RepL K S H (v :: vs) (t :: ts)
inductive RepF (K : PySem.W.Frag) (S : Fz) (H : Hp) : List (Str × V) → List (Str × T) → Prop
  | nil : RepF K S H [] []
  | cons {f : Str} {v : V} {vs : List (Str × V)} {t : T} {ts : List (Str × T)} : Rep K S H v t → RepF K S H vs ts → RepF K S H ((f, v) :: vs) ((f, t) :: ts)
end

/-- later: what was frozen is frozen, and as it was -/
structure Fut (S : Fz) (H : Hp) (S1 : Fz) (H1 : Hp) : Prop where
  sub : ∀ a, S.s a → S1.s a
  kp : ∀ a, S.has a → H1 a = H a
  pe : S1.p = S.p
theorem Fut.refl {S : Fz} {H : Hp} : Fut S H S H := ⟨fun _ h => h, fun _ _ => rfl, rfl⟩
theorem Fut.trans {S S1 S2 : Fz} {H H1 H2 : Hp} (a : Fut S H S1 H1) (b : Fut S1 H1 S2 H2) : Fut S H S2 H2 :=
  ⟨fun x h => b.sub x (a.sub x h), fun x h => (b.kp x (h.elim (fun z => .inl (a.sub x z)) fun z => .inr (a.pe ▸ z))).trans (a.kp x h), b.pe.trans a.pe⟩
theorem Fut.rd {S S1 : Fz} {H H1 : Hp} (f : Fut S H S1 H1) {a : Addr} {u : HO} (s : S.s a) (h : Rd H a u) : Rd H1 a u := by
  unfold Rd at *; rw [f.kp a (.inl s)]; exact h
structure Fu (S : Fz) (H : Hp) (S1 : Fz) (H1 : Hp) : Prop where
  sub : ∀ a, S.s a → S1.s a
  kp : ∀ a, S.s a → H1 a = H a
theorem Fut.fu {S S1 : Fz} {H H1 : Hp} (f : Fut S H S1 H1) : Fu S H S1 H1 := ⟨f.sub, fun a s => f.kp a (.inl s)⟩
theorem Fu.trans {S S1 S2 : Fz} {H H1 H2 : Hp} (a : Fu S H S1 H1) (b : Fu S1 H1 S2 H2) : Fu S H S2 H2 := ⟨fun x h => b.sub x (a.sub x h), fun x h => (b.kp x (a.sub x h)).trans (a.kp x h)⟩
theorem Fu.rd {S S1 : Fz} {H H1 : Hp} (f : Fu S H S1 H1) {a : Addr} {u : HO} (s : S.s a) (h : Rd H a u) : Rd H1 a u := by
  unfold Rd at *; rw [f.kp a s]; exact h
section
variable {K : PySem.W.Frag} {S S1 : Fz} {H H1 : Hp}
mutual
theorem Rep.fu (f : Fu S H S1 H1) : ∀ {v : V} {t : T}, Rep K S H v t → Rep K S1 H1 v t
  | _, _, .non => .non
  | _, _, .bl b => .bl b
  | _, _, .int i => .int i
  | _, _, .str x => .str x
  | _, _, .tup s h r => .tup (f.sub _ s) ((f.kp _ s).trans h) (RepL.fu f r)
  | _, _, .tupK h r => .tupK h (RepL.fu f r)
  | _, _, .lst s h r => .lst (f.sub _ s) ((f.kp _ s).trans h) (RepL.fu f r)
  | _, _, .scr s h => .scr (f.sub _ s) (f.rd s h)
  | _, _, .scrK h => .scrK h
  | _, _, .ins s h r => .ins (f.sub _ s) ((f.kp _ s).trans h) (RepF.fu f r)
  | _, _, .ref a => .ref a
  | _, _, .ty n => .ty n
  | _, _, .exc s h r => .exc (f.sub _ s) ((f.kp _ s).trans h) (RepF.fu f r)
  | _, _, .exc0 => .exc0
theorem RepL.fu (f : Fu S H S1 H1) : ∀ {v : List V} {t : List T}, RepL K S H v t → RepL K S1 H1 v t
  | _, _, .nil => .nil
  | _, _, .cons r q => .cons (Rep.fu f r) (RepL.fu f q)
theorem RepF.fu (f : Fu S H S1 H1) : ∀ {v : List (Str × V)} {t : List (Str × T)}, RepF K S H v t → RepF K S1 H1 v t
  | _, _, .nil => .nil
  | _, _, .cons r q => .cons (Rep.fu f r) (RepF.fu f q)
end
theorem Rep.fut (f : Fut S H S1 H1) {v : V} {t : T} (r : Rep K S H v t) : Rep K S1 H1 v t := r.fu f.fu
theorem RepL.fut (f : Fut S H S1 H1) {v : List V} {t : List T} (r : RepL K S H v t) : RepL K S1 H1 v t := r.fu f.fu
theorem RepF.fut (f : Fut S H S1 H1) {v : List (Str × V)} {t : List (Str × T)} (r : RepF K S H v t) : RepF K S1 H1 v t := r.fu f.fu
mutual
theorem Rep.fut' (f : ∀ a, S.s a → S1.s a) : ∀ {v : V} {t : T}, Rep K S H v t → Rep K S1 H v t
  | _, _, .non => .non
  | _, _, .bl b => .bl b
  | _, _, .int i => .int i
  | _, _, .str x => .str x
  | _, _, .tup s h r => .tup (f _ s) h (RepL.fut' f r)
  | _, _, .tupK h r => .tupK h (RepL.fut' f r)
  | _, _, .lst s h r => .lst (f _ s) h (RepL.fut' f r)
  | _, _, .scr s h => .scr (f _ s) h
  | _, _, .scrK h => .scrK h
  | _, _, .ins s h r => .ins (f _ s) h (RepF.fut' f r)
  | _, _, .ref a => .ref a
  | _, _, .ty n => .ty n
  | _, _, .exc s h r => .exc (f _ s) h (RepF.fut' f r)
  | _, _, .exc0 => .exc0
theorem RepL.fut' (f : ∀ a, S.s a → S1.s a) : ∀ {v : List V} {t : List T}, RepL K S H v t → RepL K S1 H v t
  | _, _, .nil => .nil
  | _, _, .cons r q => .cons (Rep.fut' f r) (RepL.fut' f q)
theorem RepF.fut' (f : ∀ a, S.s a → S1.s a) : ∀ {v : List (Str × V)} {t : List (Str × T)}, RepF K S H v t → RepF K S1 H v t
  | _, _, .nil => .nil
  | _, _, .cons r q => .cons (Rep.fut' f r) (RepF.fut' f q)
end
theorem Rep.scr_sq {v : V} {ns : List Int} (r : Rep K S H v (.scr ns)) : ∃ a, v = .ref a ∧ SqL K H a (ns.map V.int) ∧ ∀ S1 H1, Fu S H S1 H1 → SqL K H1 a (ns.map V.int) := by
  cases r with
  | scr s h => exact ⟨_, rfl, .inl h, fun S1 H1 f => .inl (f.rd s h)⟩
  | scrK h => exact ⟨_, rfl, .inr h, fun S1 H1 f => .inr h⟩
theorem RepL.length : ∀ {v : List V} {t : List T}, RepL K S H v t → v.length = t.length
  | _, _, .nil => rfl
  | _, _, .cons _ q => congrArg (· + 1) (RepL.length q)
theorem RepL.get : ∀ {v : List V} {t : List T} {i : Nat} {y : T}, RepL K S H v t → t[i]? = some y → ∃ x, v[i]? = some x ∧ Rep K S H x y
  | _, _, _, _, .nil, e => by simp at e
  | _, _, 0, _, .cons r _, e => by simp at e; subst e; exact ⟨_, rfl, r⟩
  | _, _, i + 1, y, .cons _ q, e => by
    obtain ⟨x, h1, h2⟩ := RepL.get (i := i) (y := y) q (by simpa using e)
    exact ⟨x, by simpa using h1, h2⟩
theorem RepL.append : ∀ {v w : List V} {t u : List T}, RepL K S H v t → RepL K S H w u → RepL K S H (v ++ w) (t ++ u)
  | _, _, _, _, .nil, s => s
  | _, _, _, _, .cons r q, s => .cons r (RepL.append q s)
theorem RepL.take : ∀ (n : Nat) {v : List V} {t : List T}, RepL K S H v t → RepL K S H (v.take n) (t.take n)
  | 0, _, _, _ => .nil
  | _ + 1, _, _, .nil => .nil
  | n + 1, _, _, .cons r q => .cons r (RepL.take n q)
theorem RepL.drop : ∀ (n : Nat) {v : List V} {t : List T}, RepL K S H v t → RepL K S H (v.drop n) (t.drop n)
  | 0, _, _, r => r
  | _ + 1, _, _, .nil => .nil
  | n + 1, _, _, .cons _ q => RepL.drop n q
theorem RepL.set {x : V} {y : T} (r : Rep K S H x y) : ∀ (i : Nat) {v : List V} {t : List T}, RepL K S H v t → RepL K S H (v.set i x) (t.set i y)
  | _, _, _, .nil => .nil
  | 0, _, _, .cons _ q => .cons r q
  | i + 1, _, _, .cons p q => .cons p (RepL.set r i q)
theorem RepL.dropLast : ∀ {v : List V} {t : List T}, RepL K S H v t → RepL K S H v.dropLast t.dropLast
  | _, _, .nil => .nil
  | _, _, .cons r .nil => .nil
  | _, _, .cons r (.cons p q) => .cons r (RepL.dropLast (.cons p q))
theorem RepL.replicate (n : Nat) {v : List V} {t : List T} (r : RepL K S H v t) : RepL K S H (List.replicate n v).flatten (List.replicate n t).flatten := by
  induction n with
  | zero => exact .nil
  | succ n ih => rw [List.replicate_succ, List.replicate_succ, List.flatten_cons, List.flatten_cons]; exact r.append ih
theorem RepL.ints : ∀ {v : List V} {ns : List Int}, RepL K S H v (ns.map T.int) → v = ns.map V.int
  | _, [], .nil => rfl
  | _, n :: ns, .cons r q => by
    cases r
    rw [RepL.ints (ns := ns) q]
    rfl
theorem RepL.of_ints : ∀ (ns : List Int), RepL K S H (ns.map V.int) (ns.map T.int)
  | [] => .nil
  | n :: ns => .cons (.int n) (RepL.of_ints ns)
theorem RepL.bls : ∀ {v : List V} {ns : List Bool}, RepL K S H v (ns.map T.bl) → v = ns.map V.bl
  | _, [], .nil => rfl
  | _, n :: ns, .cons r q => by
    cases r
    rw [RepL.bls (ns := ns) q]
    rfl
end

def RepO (K : PySem.W.Frag) (S : Fz) (H : Hp) (u : HO) : O → Prop
  | .lst ts => ∃ vs, u = .lst vs ∧ RepL K S H vs ts
  | .ins C gs => ∃ dx fs, u = .ins C dx fs ∧ RepF K S H fs gs
  | .pool => ∃ a b : Int, u = .lst [.int a, .int b] ∧ 0 ≤ a ∧ 0 ≤ b ∧ b < 2147483647
theorem RepO.fut {K : PySem.W.Frag} {S S1 : Fz} {H H1 : Hp} {u : HO} (f : Fut S H S1 H1) : ∀ {o : O}, RepO K S H u o → RepO K S1 H1 u o
  | .lst _, ⟨vs, e, r⟩ => ⟨vs, e, r.fut f⟩
  | .ins _ _, ⟨dx, fs, e, r⟩ => ⟨dx, fs, e, r.fut f⟩
  | .pool, r => r

theorem RepO.fut' {K : PySem.W.Frag} {S S1 : Fz} {H : Hp} {u : HO} (f : ∀ a, S.s a → S1.s a) : ∀ {o : O}, RepO K S H u o → RepO K S1 H u o
  | .lst _, ⟨vs, e, r⟩ => ⟨vs, e, r.fut' f⟩
  | .ins _ _, ⟨dx, fs, e, r⟩ => ⟨dx, fs, e, r.fut' f⟩
  | .pool, r => r

structure Sim (K : PySem.W.Frag) (S : Fz) (H : Hp) (h : Hq) : Prop where
  fr : ∀ a, S.has a → h a = none
  al : ∀ a, S.has a → H a ≠ none
  dj : ∀ a, S.s a → ¬ S.p a
  ob : ∀ a o, h a = some o → ∃ u, H a = some u ∧ RepO K S H u o
section
variable {K : PySem.W.Frag} {S : Fz} {H : Hp} {h : Hq}
theorem Sim.free (m : Sim K S H h) {p : Addr} (e : H p = none) : h p = none := by
  cases q : h p with
  | none => rfl
  | some o =>
    obtain ⟨u, r, _⟩ := m.ob p o q
    rw [e] at r; cases r
theorem Sim.nS (m : Sim K S H h) {p : Addr} (e : H p = none) : ¬ S.has p := fun s => m.al p s e
theorem Sim.nS' (m : Sim K S H h) {p : Addr} {o : O} (e : h p = some o) : ¬ S.has p := fun s => by
  rw [m.fr p s] at e; cases e
theorem neS {a p : Addr} (s : S.has a) (n : ¬ S.has p) : a ≠ p := fun e => n (e ▸ s)
theorem fut_upd {p : Addr} {u : HO} (n : ¬ S.has p) : Fut S H S (upd H p u) := ⟨fun _ s => s, fun a s => upd_ne (neS s n), rfl⟩
/-- a new followed object -/
theorem Sim.new (m : Sim K S H h) {p : Addr} {u : HO} {o : O} (e : H p = none) (r : RepO K S H u o) : Sim K S (upd H p u) (put h p o) where
  fr := fun a s => by rw [put_ne (neS s (m.nS e))]; exact m.fr a s
  al := fun a s => by rw [upd_ne (neS s (m.nS e))]; exact m.al a s
  dj := m.dj
  ob := fun a o' q => by
    have f : Fut S H S (upd H p u) := fut_upd (m.nS e)
    by_cases c : a = p
    · subst c; rw [put_same] at q; cases q; exact ⟨u, upd_same, r.fut f⟩
    · rw [put_ne c] at q
      obtain ⟨w, q1, q2⟩ := m.ob a o' q
      exact ⟨w, by rw [upd_ne c]; exact q1, q2.fut f⟩
/-- a followed object changed -/
theorem Sim.write (m : Sim K S H h) {p : Addr} {u : HO} {o o' : O} (e : h p = some o) (r : RepO K S H u o') : Sim K S (upd H p u) (put h p o') where
  fr := fun a s => by rw [put_ne (neS s (m.nS' e))]; exact m.fr a s
  al := fun a s => by rw [upd_ne (neS s (m.nS' e))]; exact m.al a s
  dj := m.dj
  ob := fun a o2 q => by
    have f : Fut S H S (upd H p u) := fut_upd (m.nS' e)
    by_cases c : a = p
    · subst c; rw [put_same] at q; cases q; exact ⟨u, upd_same, r.fut f⟩
    · rw [put_ne c] at q
      obtain ⟨w, q1, q2⟩ := m.ob a o2 q
      exact ⟨w, by rw [upd_ne c]; exact q1, q2.fut f⟩
/-- something that is not followed, nor frozen, is laid or changed -/
theorem Sim.side' (m : Sim K S H h) {p : Addr} {u : HO} (e : h p = none) (n : ¬ S.has p) : Sim K S (upd H p u) h where
  fr := m.fr
  al := fun a s => by rw [upd_ne (neS s n)]; exact m.al a s
  dj := m.dj
  ob := fun a o q => by
    obtain ⟨w, q1, q2⟩ := m.ob a o q
    exact ⟨w, by rw [upd_ne fun z => by rw [z, e] at q; cases q]; exact q1, q2.fut (fut_upd n)⟩
theorem Sim.side (m : Sim K S H h) {p : Addr} {u : HO} (e : H p = none) : Sim K S (upd H p u) h := m.side' (m.free e) (m.nS e)
/-- the set with one more -/
def plus (S : Fz) (p : Addr) : Fz := ⟨fun a => S.s a ∨ a = p, S.p⟩
def prot (S : Fz) (p : Addr) : Fz := ⟨S.s, fun a => S.p a ∨ a = p⟩
theorem fut_plus {p : Addr} {H1 : Hp} (f : Fut S H S H1) : Fut S H (plus S p) H1 := ⟨fun _ s => .inl s, f.kp, rfl⟩
theorem Sim.plus (m : Sim K S H h) {p : Addr} (e : h p = none) (n : H p ≠ none) (d : ¬ S.p p) : Sim K (plus S p) H h where
  fr := fun a s => by
    rcases s with (s | s) | s
    · exact m.fr a (.inl s)
    · rw [s]; exact e
    · exact m.fr a (.inr s)
  al := fun a s => by
    rcases s with (s | s) | s
    · exact m.al a (.inl s)
    · rw [s]; exact n
    · exact m.al a (.inr s)
  dj := fun a s => by
    rcases s with s | s
    · exact m.dj a s
    · rw [s]; exact d
  ob := fun a o q => by
    obtain ⟨w, q1, q2⟩ := m.ob a o q
    exact ⟨w, q1, q2.fut (fut_plus Fut.refl)⟩
/-- something new and frozen at once -/
theorem Sim.frozen (m : Sim K S H h) {p : Addr} {u : HO} (e : H p = none) : Sim K (TL.plus S p) (upd H p u) h ∧ Fut S H (TL.plus S p) (upd H p u) :=
  ⟨(m.side e).plus (m.free e) (by rw [upd_same]; exact fun z => nomatch z) (fun z => m.nS e (.inr z)), fut_plus (fut_upd (m.nS e))⟩
/-- forgetting what is followed -/
theorem Sim.sub (m : Sim K S H h) {h' : Hq} (e : ∀ a o, h' a = some o → h a = some o) : Sim K S H h' where
  fr := fun a s => by
    cases q : h' a with
    | none => rfl
    | some o => exact absurd (e a o q) (by rw [m.fr a s]; exact fun z => nomatch z)
  al := m.al
  dj := m.dj
  ob := fun a o q => m.ob a o (e a o q)
theorem Sim.del (m : Sim K S H h) {p : Addr} : Sim K S H (TL.del h p) := m.sub fun a o q => by
  unfold TL.del at q; split at q
  · cases q
  · exact q
/-- a followed object is frozen -/
theorem Sim.freeze (m : Sim K S H h) {p : Addr} {o : O} (e : h p = some o) : Sim K (TL.plus S p) H (TL.del h p) := by
  obtain ⟨u, q, _⟩ := m.ob p o e
  exact m.del.plus (by unfold TL.del; rw [if_pos rfl]) (by rw [q]; exact fun z => nomatch z) (fun z => m.nS' e (.inr z))
/-- protecting one more for a while -/
theorem Rep.noP {S1 : Fz} (e : S1.s = S.s) {v : V} {t : T} : Rep K S H v t → Rep K S1 H v t := fun r => r.fut' fun a s => by rw [e]; exact s
theorem Sim.prot (m : Sim K S H h) {p : Addr} (e : h p = none) (n : H p ≠ none) (d : ¬ S.s p) : Sim K (TL.prot S p) H h where
  fr := fun a s => by
    rcases s with s | s | s
    · exact m.fr a (.inl s)
    · exact m.fr a (.inr s)
    · rw [s]; exact e
  al := fun a s => by
    rcases s with s | s | s
    · exact m.al a (.inl s)
    · exact m.al a (.inr s)
    · rw [s]; exact n
  dj := fun a s z => by
    rcases z with z | z
    · exact m.dj a s z
    · exact d (z ▸ s)
  ob := fun a o q => by
    obtain ⟨w, q1, q2⟩ := m.ob a o q
    exact ⟨w, q1, RepO.fut' (S := S) (S1 := TL.prot S p) (fun _ s => s) q2⟩
/-- .. and no more: S1 is behind prot S p -/
def unp (S S1 : Fz) : Fz := ⟨S1.s, S.p⟩
theorem Sim.unp {S1 : Fz} {H1 : Hp} {h1 : Hq} (m : Sim K S1 H1 h1) {p : Addr} (e : S1.p = (TL.prot S p).p) : Sim K (TL.unp S S1) H1 h1 where
  fr := fun a s => m.fr a (s.elim .inl fun z => .inr (by rw [e]; exact .inl z))
  al := fun a s => m.al a (s.elim .inl fun z => .inr (by rw [e]; exact .inl z))
  dj := fun a s z => m.dj a s (by rw [e]; exact .inl z)
  ob := fun a o q => by
    obtain ⟨w, q1, q2⟩ := m.ob a o q
    exact ⟨w, q1, RepO.fut' (S := S1) (S1 := TL.unp S S1) (fun _ s => s) q2⟩
theorem Fut.unp {S1 : Fz} {H1 : Hp} {p : Addr} (f : Fut (TL.prot S p) H S1 H1) : Fut S H (TL.unp S S1) H1 := ⟨fun a s => f.sub a s, fun a s => f.kp a (s.elim .inl fun z => .inr (.inl z)), rfl⟩
end

abbrev Sl := List (Option T)
structure RepS (K : PySem.W.Frag) (S : Fz) (H : Hp) (σ : L2.St) (s : Sl) : Prop where
  len : σ.length = s.length
  at_ : ∀ (i : Nat) t, s[i]? = some (some t) → ∃ v, σ[i]? = some (some v) ∧ Rep K S H v t
section
variable {K : PySem.W.Frag} {S S1 : Fz} {H H1 : Hp} {σ : L2.St} {s : Sl}
theorem RepS.fut (f : Fut S H S1 H1) (r : RepS K S H σ s) : RepS K S1 H1 σ s := ⟨r.len, fun i t e => by
  obtain ⟨v, h1, h2⟩ := r.at_ i t e
  exact ⟨v, h1, h2.fut f⟩⟩
theorem RepS.fu (f : Fu S H S1 H1) (r : RepS K S H σ s) : RepS K S1 H1 σ s := ⟨r.len, fun i t e => by
  obtain ⟨v, h1, h2⟩ := r.at_ i t e
  exact ⟨v, h1, h2.fu f⟩⟩
theorem RepS.set (r : RepS K S H σ s) {v : V} {t : T} (q : Rep K S H v t) (i : Nat) : RepS K S H (σ.set i (some v)) (s.set i (some t)) := ⟨by simp [r.len], fun j u e => by
  by_cases c : i = j
  · subst c
    have hl : i < s.length := by
      have := (List.getElem?_eq_some_iff.mp e).1
      simpa using this
    rw [List.getElem?_set_self hl] at e
    cases e
    exact ⟨v, by rw [List.getElem?_set_self (by rw [r.len]; exact hl)], q⟩
  · rw [List.getElem?_set_ne c] at e
    obtain ⟨w, h1, h2⟩ := r.at_ j u e
    exact ⟨w, by rw [List.getElem?_set_ne c]; exact h1, h2⟩⟩
theorem RepS.start {N : List Str} : ∀ {vs : List V} {ts : List T}, RepL K S H vs ts → vs.length ≤ N.length → RepS K S H (L2.start N vs) (ts.map some ++ List.replicate (N.length - ts.length) none) := fun {vs ts} r hl => by
  have e := r.length
  refine ⟨by simp [L2.start, e], fun i t q => ?_⟩
  by_cases c : i < ts.length
  · rw [List.getElem?_append_left (by simpa using c), List.getElem?_map] at q
    cases z : ts[i]? with
    | none => rw [z] at q; cases q
    | some y =>
      rw [z] at q
      cases q
      obtain ⟨x, h1, h2⟩ := r.get z
      refine ⟨x, ?_, h2⟩
      unfold L2.start
      rw [List.getElem?_append_left (by simpa [e] using c), List.getElem?_map, h1]
      rfl
  · rw [List.getElem?_append_right (by simpa using c), List.getElem?_replicate] at q
    split at q
    · cases q
    · cases q
theorem RepS.fut' (f : ∀ a, S.s a → S1.s a) (r : RepS K S H σ s) : RepS K S1 H σ s := ⟨r.len, fun i t e => by
  obtain ⟨v, h1, h2⟩ := r.at_ i t e
  exact ⟨v, h1, h2.fut' f⟩⟩
end
end TL

namespace TL
open PySem L2

structure Ex where
  cls : Value
  fs : List (Str × T)
abbrev EX := Ex → Sl → Hq → Prop
abbrev TK := T → Hq → Prop
abbrev EM := Sl → Hq → TK → EX → Prop
abbrev TM := Sl → Hq → (Bool → Hq → Prop) → EX → Prop
abbrev AM := Sl → Hq → (List T → Hq → Prop) → EX → Prop
abbrev OM := Sl → Hq → (Option Int → Hq → Prop) → EX → Prop
abbrev SK := Sl → Hq → Prop
abbrev GM := T → Sl → Hq → SK → EX → Prop
abbrev GMs := List T → Sl → Hq → SK → EX → Prop
/-- what is walked: its items, and what must stand meanwhile -/
abbrev IM := Sl → Hq → (List T → (Hq → Prop) → Hq → Prop) → EX → Prop
structure En where
  nx : SK
  rt : TK
  bk : SK := fun _ _ => False
  ct : SK := fun _ _ => False
  ex : EX := fun _ _ _ => False
abbrev SM := En → Sl → Hq → Prop
/-- what a def is worth -/
abbrev Con := List T → Hq → TK → (Ex → Hq → Prop) → Prop

def RepX (K : PySem.W.Frag) (S : Fz) (H : Hp) (cls : Value) (d : Option Addr) (x : Ex) : Prop :=
  cls = x.cls ∧ ((d = none ∧ x.fs = []) ∨ ∃ dd fs, d = some dd ∧ S.s dd ∧ H dd = some (.xd fs) ∧ RepF K S H fs x.fs)

def LkX (K : PySem.W.Frag) (W : WX) (S : Fz) (H : Hp) (E : EX) : Prop := ∀ S1 H1 h1 σ1 s1 x cls d, Fut S H S1 H1 → Sim K S1 H1 h1 → RepS K S1 H1 σ1 s1 → RepX K S1 H1 cls d x → E x s1 h1 → W cls d σ1 H1
def PK (K : PySem.W.Frag) (S : Fz) (H : Hp) (Q : TK) (Q' : VK) : Prop := ∀ S1 H1 h1 v u, Fut S H S1 H1 → Sim K S1 H1 h1 → Rep K S1 H1 v u → Q u h1 → Q' v H1
def PB (K : PySem.W.Frag) (S : Fz) (H : Hp) (Q : Bool → Hq → Prop) (Q' : Bool → Hp → Prop) : Prop := ∀ S1 H1 h1 b, Fut S H S1 H1 → Sim K S1 H1 h1 → Q b h1 → Q' b H1
def PL (K : PySem.W.Frag) (S : Fz) (H : Hp) (Q : List T → Hq → Prop) (Q' : List V → Hp → Prop) : Prop := ∀ S1 H1 h1 v u, Fut S H S1 H1 → Sim K S1 H1 h1 → RepL K S1 H1 v u → Q u h1 → Q' v H1
def PSl (K : PySem.W.Frag) (S : Fz) (H : Hp) (Q : SK) (Q' : L2.St → Hp → Prop) : Prop := ∀ S1 H1 h1 σ s, Fut S H S1 H1 → Sim K S1 H1 h1 → RepS K S1 H1 σ s → Q s h1 → Q' σ H1
structure LkD (K : PySem.W.Frag) (W : WX) (S : Fz) (H : Hp) (D : En) (D' : Ends) : Prop where
  nx : PSl K S H D.nx D'.nx
  rt : PK K S H D.rt D'.rt
  bk : PSl K S H D.bk D'.bk
  ct : PSl K S H D.ct D'.ct
  ex : LkX K W S H D.ex
section
variable {K : PySem.W.Frag} {W : WX} {S S1 : Fz} {H H1 : Hp}
theorem LkX.fut {E : EX} (l : LkX K W S H E) (f : Fut S H S1 H1) : LkX K W S1 H1 E := fun S2 H2 h2 σ s x c d g => l S2 H2 h2 σ s x c d (f.trans g)
theorem PK.fut {Q : TK} {Q' : VK} (l : PK K S H Q Q') (f : Fut S H S1 H1) : PK K S1 H1 Q Q' := fun S2 H2 h2 v u g => l S2 H2 h2 v u (f.trans g)
theorem PB.fut {Q : Bool → Hq → Prop} {Q' : Bool → Hp → Prop} (l : PB K S H Q Q') (f : Fut S H S1 H1) : PB K S1 H1 Q Q' := fun S2 H2 h2 v g => l S2 H2 h2 v (f.trans g)
theorem PL.fut {Q : List T → Hq → Prop} {Q' : List V → Hp → Prop} (l : PL K S H Q Q') (f : Fut S H S1 H1) : PL K S1 H1 Q Q' := fun S2 H2 h2 v u g => l S2 H2 h2 v u (f.trans g)
theorem PSl.fut {Q : SK} {Q' : L2.St → Hp → Prop} (l : PSl K S H Q Q') (f : Fut S H S1 H1) : PSl K S1 H1 Q Q' := fun S2 H2 h2 v u g => l S2 H2 h2 v u (f.trans g)
theorem LkD.fut {D : En} {D' : Ends} (l : LkD K W S H D D') (f : Fut S H S1 H1) : LkD K W S1 H1 D D' := ⟨l.nx.fut f, l.rt.fut f, l.bk.fut f, l.ct.fut f, l.ex.fut f⟩
end

def liftE (K : PySem.W.Frag) (W : WX) (m : EM) : TE := fun σ H Q' => ∃ S h s Q E, Sim K S H h ∧ RepS K S H σ s ∧ LkX K W S H E ∧ m s h Q E ∧ PK K S H Q Q'
def liftT (K : PySem.W.Frag) (W : WX) (m : TM) : TT := fun σ H Q' => ∃ S h s Q E, Sim K S H h ∧ RepS K S H σ s ∧ LkX K W S H E ∧ m s h Q E ∧ PB K S H Q Q'
def liftA (K : PySem.W.Frag) (W : WX) (m : AM) : TA := fun σ H Q' => ∃ S h s Q E, Sim K S H h ∧ RepS K S H σ s ∧ LkX K W S H E ∧ m s h Q E ∧ PL K S H Q Q'
def liftO (K : PySem.W.Frag) (W : WX) (m : OM) : TO := fun σ H Q' => ∃ S h s Q E, Sim K S H h ∧ RepS K S H σ s ∧ LkX K W S H E ∧ m s h Q E ∧ ∀ S1 H1 h1 o, Fut S H S1 H1 → Sim K S1 H1 h1 → Q o h1 → Q' o H1
def liftS (K : PySem.W.Frag) (W : WX) (m : SM) : TS := fun D' σ H => ∃ S h s D, Sim K S H h ∧ RepS K S H σ s ∧ LkD K W S H D D' ∧ m D s h
def liftG (K : PySem.W.Frag) (W : WX) (m : GM) : TG := fun v σ H Q' => ∃ S h s t Q E, Sim K S H h ∧ RepS K S H σ s ∧ Rep K S H v t ∧ LkX K W S H E ∧ m t s h Q E ∧ PSl K S H Q Q'
def liftGs (K : PySem.W.Frag) (W : WX) (m : GMs) : TGs := fun v σ H Q' => ∃ S h s t Q E, Sim K S H h ∧ RepS K S H σ s ∧ RepL K S H v t ∧ LkX K W S H E ∧ m t s h Q E ∧ PSl K S H Q Q'
def ItRep (K : PySem.W.Frag) (S : Fz) (H : Hp) (J : It) (ts : List T) (stay : Hq → Prop) : Prop := ∀ S1 H1 h1, Fu S H S1 H1 → Sim K S1 H1 h1 → stay h1 →
  (∀ (i : Nat) t, ts[i]? = some t → J.go i H1 ∧ ∀ x H2, J.yld i H1 x H2 → ∃ S2, Fut S1 H1 S2 H2 ∧ Sim K S2 H2 h1 ∧ Rep K S2 H2 x t) ∧ J.stop ts.length H1
def liftI (K : PySem.W.Frag) (W : WX) (m : IM) : TI := fun σ H R => ∃ S h s Q E, Sim K S H h ∧ RepS K S H σ s ∧ LkX K W S H E ∧ m s h Q E ∧ ∀ S1 H1 h1 J ts stay, Fut S H S1 H1 → Sim K S1 H1 h1 → ItRep K S1 H1 J ts stay → Q ts stay h1 → R J H1

def JE (X : Cx) (W : WX) (e : Expr) (m : EM) : Prop := PE X e (liftE X.K W m)
def JT (X : Cx) (W : WX) (e : Expr) (m : TM) : Prop := PT X e (liftT X.K W m)
def JW (X : Cx) (W : WX) (e : Expr) (m : TM) : Prop := PW X e (liftT X.K W m)
def JA (X : Cx) (W : WX) (es : List Expr) (m : AM) : Prop := PA X es (liftA X.K W m)
def JO (X : Cx) (W : WX) (e : Option Expr) (m : OM) : Prop := PO X e (liftO X.K W m)
def JS (X : Cx) (W : WX) (st : Stmt) (m : SM) : Prop := PS X st (liftS X.K W m)
def JSs (X : Cx) (W : WX) (st : List Stmt) (m : SM) : Prop := PSs X st (liftS X.K W m)
def JG (X : Cx) (W : WX) (e : Expr) (m : GM) : Prop := PG X e (liftG X.K W m)
def JGs (X : Cx) (W : WX) (e : List Expr) (m : GMs) : Prop := PGs X e (liftGs X.K W m)
def JI (X : Cx) (W : WX) (tg e : Expr) (m : IM) : Prop := PI X tg e (liftI X.K W m)

section
variable {X : Cx} {W : WX}
theorem _root_.L2.PE.wk {e : Expr} {t t' : TE} (p : PE X e t) (h : ∀ σ H Q, t' σ H Q → t σ H Q) : PE X e t' := ⟨fun pins s σ H Q I w => p.run pins s σ H Q I (h σ H Q w)⟩
theorem _root_.L2.PT.wk {e : Expr} {t t' : TT} (p : PT X e t) (h : ∀ σ H Q, t' σ H Q → t σ H Q) : PT X e t' := ⟨fun pins s σ H Q I w => p.run pins s σ H Q I (h σ H Q w)⟩
theorem _root_.L2.PW.wk {e : Expr} {t t' : TT} (p : PW X e t) (h : ∀ σ H Q, t' σ H Q → t σ H Q) : PW X e t' := ⟨fun wh pins s σ H Q I w => p.run wh pins s σ H Q I (h σ H Q w)⟩
theorem _root_.L2.PA.wk {e : List Expr} {t t' : TA} (p : PA X e t) (h : ∀ σ H Q, t' σ H Q → t σ H Q) : PA X e t' := ⟨fun pos pins s σ H Q I w => p.run pos pins s σ H Q I (h σ H Q w)⟩
theorem _root_.L2.PO.wk {e : Option Expr} {t t' : TO} (p : PO X e t) (h : ∀ σ H Q, t' σ H Q → t σ H Q) : PO X e t' := ⟨fun pins s σ H Q I w => p.run pins s σ H Q I (h σ H Q w)⟩
theorem _root_.L2.PS.wk {e : Stmt} {t t' : TS} (p : PS X e t) (h : ∀ D σ H, t' D σ H → t D σ H) : PS X e t' := ⟨fun pins s σ H D I w => p.run pins s σ H D I (h D σ H w)⟩
theorem _root_.L2.PSs.wk {e : List Stmt} {t t' : TS} (p : PSs X e t) (h : ∀ D σ H, t' D σ H → t D σ H) : PSs X e t' := ⟨fun pins s σ H D I w => p.run pins s σ H D I (h D σ H w)⟩
theorem _root_.L2.PG.wk {e : Expr} {t t' : TG} (p : PG X e t) (h : ∀ v σ H Q, t' v σ H Q → t v σ H Q) : PG X e t' := ⟨fun pins s σ H v u Q I r w => p.run pins s σ H v u Q I r (h v σ H Q w)⟩
theorem _root_.L2.PGs.wk {e : List Expr} {t t' : TGs} (p : PGs X e t) (h : ∀ v σ H Q, t' v σ H Q → t v σ H Q) : PGs X e t' := ⟨fun pins s σ H v u Q I r w => p.run pins s σ H v u Q I r (h v σ H Q w)⟩
theorem _root_.L2.PI.wk {tg e : Expr} {t t' : TI} (p : PI X tg e t) (h : ∀ σ H Q, t' σ H Q → t σ H Q) : PI X tg e t' := ⟨fun pins s σ H Q I w => p.run pins s σ H Q I (h σ H Q w)⟩

/-! ### names and constants -/
def eVar (i : Nat) : EM := fun s h Q _ => match s[i]? with
  | some (some t) => Q t h
  | _ => False
def eC (t : T) : EM := fun _ h Q _ => Q t h
theorem j_var (i : Nat) {x : Str} {pos : Pos} (hN : X.N[i]? = some x := by rfl) (hv : Vis X.env.scope x := by first | exact Or.inl rfl | exact Or.inr (Or.inl rfl) | exact Or.inr (Or.inr rfl)) (hd : (x == ("__debug__" : Str)) = false := by decide)
    (hcd : (x == ("__classdict__" : Str)) = false := by decide) : JE X W (.Name x pos) (eVar i) := (pe_var hN hv hd hcd).wk fun σ H Q' ⟨S, h, s, Q, E, m, rs, lk, hm, pk⟩ => by
  unfold eVar at hm
  split at hm
  · rename_i t e
    obtain ⟨v, e1, r⟩ := rs.at_ i t e
    exact ⟨v, e1, pk S H h v t Fut.refl m r hm⟩
  · exact hm.elim
theorem j_c {e : Expr} {v : V} {t : T} (p : PE X e (tC v)) (r : ∀ S H, Rep X.K S H v t) : JE X W e (eC t) := p.wk fun σ H Q' ⟨S, h, s, Q, E, m, rs, lk, hm, pk⟩ => pk S H h v t Fut.refl m (r S H) hm
theorem j_int {i j pos} : JE X W (.Constant (.int i) j pos) (eC (.int i)) := j_c pe_int fun _ _ => .int i
theorem j_bl {b j pos} : JE X W (.Constant (.bool b) j pos) (eC (.bl b)) := j_c pe_bl fun _ _ => .bl b
theorem j_non {j pos} : JE X W (.Constant .none j pos) (eC .non) := j_c pe_non fun _ _ => .non
theorem j_str {x j pos} : JE X W (.Constant (.str x) j pos) (eC (.str x)) := j_c pe_str fun _ _ => .str x
theorem j_globI {x : Str} {i : Int} {t : Tok} {pos : Pos} (hg : Gl X x) (hm : X.mg x = some (.int i t)) (hd : (x == ("__debug__" : Str)) = false := by decide) : JE X W (.Name x pos) (eC (.int i)) := j_c (v := .int i) (pe_glob hg hm ⟨t, rfl⟩ hd) fun _ _ => .int i
theorem j_globR {x : Str} {a : Addr} {pos : Pos} (hg : Gl X x) (hm : X.mg x = some (.ref a)) (hd : (x == ("__debug__" : Str)) = false := by decide) : JE X W (.Name x pos) (eC (.ref a)) := j_c (v := .ref a) (pe_glob hg hm rfl hd) fun _ _ => .ref a
theorem j_globS {x : Str} {z : Str} {t : Tok} {pos : Pos} (hg : Gl X x) (hm : X.mg x = some (.str z t)) (hd : (x == ("__debug__" : Str)) = false := by decide) : JE X W (.Name x pos) (eC (.str z)) := j_c (v := .str z) (pe_glob hg hm ⟨t, rfl⟩ hd) fun _ _ => .str z
theorem j_ty {x : Str} {n : String} {pos : Pos} (hg : Gl X x) (hm : X.mg x = none) (hv : bootBuiltins x = some (.type n)) (hn : x ≠ "__name__" := by decide) (hd : (x == ("__debug__" : Str)) = false := by decide) : JE X W (.Name x pos) (eC (.ty n)) := j_c (v := .ty n) (pe_bltn hg hm hv rfl hn hd) fun _ _ => .ty n

/-! ### two-place operations on values -/
abbrev R2T := T → T → Hq → TK → Prop
def OP (K : PySem.W.Frag) (r : R2) (o : R2T) : Prop := ∀ S H h v w x y Q Q', Sim K S H h → Rep K S H v x → Rep K S H w y → o x y h Q → PK K S H Q Q' → r v w H Q'
def eOp (o : R2T) (a b : EM) : EM := fun s h Q E => a s h (fun x h1 => b s h1 (fun y h2 => o x y h2 Q) E) E
theorem lift_op {K : PySem.W.Frag} {r : R2} {o : R2T} {a b : EM} (op : OP K r o) : ∀ σ H Q, liftE K W (eOp o a b) σ H Q → tOp r (liftE K W a) (liftE K W b) σ H Q := fun σ H Q' ⟨S, h, s, Q, E, m, rs, lk, hm, pk⟩ =>
  ⟨S, h, s, _, E, m, rs, lk, hm, fun S1 H1 h1 v x f1 m1 r1 q1 => ⟨S1, h1, s, _, E, m1, rs.fut f1, lk.fut f1, q1, fun S2 H2 h2 w y f2 m2 r2 q2 => op S2 H2 h2 v w x y Q Q' m2 (r1.fut f2) r2 q2 (pk.fut (f1.trans f2))⟩⟩
theorem j_op {a b : Expr} {ma mb : EM} {op : Operator} {r : R2} {o : R2T} {pos : Pos} (ho : OpR X (binaryOp op) r) (p : OP X.K r o) (ha : JE X W a ma) (hb : JE X W b mb) : JE X W (.BinOp a op b pos) (eOp o ma mb) := PE.wk (pe_op ho ha hb) (lift_op p)
theorem j_cmp {a b : Expr} {ma mb : EM} {op : CmpOp} {r : R2} {o : R2T} {pos : Pos} (ho : OpR X (compareOp op) r) (p : OP X.K r o) (ha : JE X W a ma) (hb : JE X W b mb) (hm : behindInMarks op b = false) : JE X W (.Compare a [op] [b] pos) (eOp o ma mb) := PE.wk (pe_cmpR ho ha hb hm) (lift_op p)
/-- a comparison as a test -/
def tOf (m : EM) : TM := fun s h Q E => m s h (fun x h1 => match x with
  | .bl b => Q b h1
  | _ => False) E
theorem lift_test {K : PySem.W.Frag} {m : EM} : ∀ σ H Q, liftT K W (tOf m) σ H Q → tTest (liftE K W m) σ H Q := fun σ H Q' ⟨S, h, s, Q, E, m, rs, lk, hm, pk⟩ =>
  ⟨S, h, s, _, E, m, rs, lk, hm, fun S1 H1 h1 v x f1 m1 r1 q1 => by
    split at q1
    · cases r1; exact ⟨_, rfl, pk S1 H1 h1 _ f1 m1 q1⟩
    · exact q1.elim⟩
theorem tTest_mono {t t' : TE} (h : ∀ σ H Q, t' σ H Q → t σ H Q) : ∀ σ H Q, tTest t' σ H Q → tTest t σ H Q := fun σ H _ q => h σ H _ q
theorem jt_cmp {a b : Expr} {ma mb : EM} {op : CmpOp} {r : R2} {o : R2T} {pos : Pos} (ho : OpR X (compareOp op) r) (p : OP X.K r o) (ha : JE X W a ma) (hb : JE X W b mb) (hm : behindInMarks op b = false) : JT X W (.Compare a [op] [b] pos) (tOf (eOp o ma mb)) :=
  PT.wk (pt_cmpR ho ha hb hm) fun σ H Q q => tTest_mono (lift_op p) σ H Q (lift_test σ H Q q)
/-- a < b < c -/
def eChain (o o' : R2T) (a b c : EM) : EM := fun s h Q E => a s h (fun x h1 => b s h1 (fun y h2 => o x y h2 fun z h3 => match z with
  | .bl true => c s h3 (fun w h4 => o' y w h4 Q) E
  | .bl false => Q (.bl false) h3
  | _ => False) E) E
theorem lift_chain {K : PySem.W.Frag} {r r' : R2} {o o' : R2T} {a b c : EM} (op : OP K r o) (op' : OP K r' o') : ∀ σ H Q, liftE K W (eChain o o' a b c) σ H Q → tChain r r' (liftE K W a) (liftE K W b) (liftE K W c) σ H Q := fun σ H Q' ⟨S, h, s, Q, E, m, rs, lk, hm, pk⟩ =>
  ⟨S, h, s, _, E, m, rs, lk, hm, fun S1 H1 h1 v x f1 m1 r1 q1 => ⟨S1, h1, s, _, E, m1, rs.fut f1, lk.fut f1, q1, fun S2 H2 h2 w y f2 m2 r2 q2 =>
    op S2 H2 h2 v w x y _ _ m2 (r1.fut f2) r2 q2 fun S3 H3 h3 z' z f3 m3 r3 q3 => by
      split at q3
      · cases r3
        refine ⟨true, rfl, ?_⟩
        rw [if_pos rfl]
        exact ⟨S3, h3, s, _, E, m3, rs.fut ((f1.trans f2).trans f3), lk.fut ((f1.trans f2).trans f3), q3, fun S4 H4 h4 w' u f4 m4 r4 q4 => op' S4 H4 h4 w w' y u Q Q' m4 (r2.fut (f3.trans f4)) r4 q4 (pk.fut (((f1.trans f2).trans f3).trans f4))⟩
      · cases r3
        refine ⟨false, rfl, ?_⟩
        rw [if_neg Bool.false_ne_true]
        exact pk S3 H3 h3 _ _ ((f1.trans f2).trans f3) m3 (.bl false) q3
      · exact q3.elim⟩⟩
theorem j_chain {a b c : Expr} {ma mb mc : EM} {op op' : CmpOp} {r r' : R2} {o o' : R2T} {pos : Pos} (ho : OpR X (compareOp op) r) (p : OP X.K r o) (ho' : OpR X (compareOp op') r') (p' : OP X.K r' o') (ha : JE X W a ma) (hb : JE X W b mb) (hc : JE X W c mc) (hl : lastMarks [op, op'] [b, c] = false := by rfl) :
    JE X W (.Compare a [op, op'] [b, c] pos) (eChain o o' ma mb mc) := PE.wk (pe_chain ho ho' ha hb hc hl) (lift_chain p p')
theorem jt_chain {a b c : Expr} {ma mb mc : EM} {op op' : CmpOp} {r r' : R2} {o o' : R2T} {pos : Pos} (ho : OpR X (compareOp op) r) (p : OP X.K r o) (ho' : OpR X (compareOp op') r') (p' : OP X.K r' o') (ha : JE X W a ma) (hb : JE X W b mb) (hc : JE X W c mc) (hl : lastMarks [op, op'] [b, c] = false := by rfl) :
    JT X W (.Compare a [op, op'] [b, c] pos) (tOf (eChain o o' ma mb mc)) := PT.wk (pt_chain ho ho' ha hb hc hl) fun σ H Q q => tTest_mono (lift_chain p p') σ H Q (lift_test σ H Q q)

/-! ### and, or, not, if-else -/
def tAndM (a b : TM) : TM := fun s h Q E => a s h (fun c h1 => if c = true then b s h1 Q E else Q false h1) E
def tOrM (a b : TM) : TM := fun s h Q E => a s h (fun c h1 => if c = true then Q true h1 else b s h1 Q E) E
def tNotM (a : TM) : TM := fun s h Q E => a s h (fun c h1 => Q (!c) h1) E
theorem jw_and1 {a : Expr} {m : TM} {pos : Pos} (h : JT X W a m) : JW X W (.BoolOp .And [a] pos) m := pw_and1 h
theorem jw_or1 {a : Expr} {m : TM} {pos : Pos} (h : JT X W a m) : JW X W (.BoolOp .Or [a] pos) m := pw_or1 h
theorem jw_and {a b : Expr} {rest : List Expr} {ma mb : TM} {pos : Pos} (ha : JT X W a ma) (hb : JW X W (.BoolOp .And (b :: rest) pos) mb) : JW X W (.BoolOp .And (a :: b :: rest) pos) (tAndM ma mb) := PW.wk (pw_and ha hb) fun σ H Q' ⟨S, h, s, Q, E, m, rs, lk, hm, pk⟩ =>
  ⟨S, h, s, _, E, m, rs, lk, hm, fun S1 H1 h1 c f1 m1 q1 => by
    cases c with
    | true => rw [if_pos rfl] at q1 ⊢; exact ⟨S1, h1, s, Q, E, m1, rs.fut f1, lk.fut f1, q1, pk.fut f1⟩
    | false => rw [if_neg Bool.false_ne_true] at q1 ⊢; exact pk S1 H1 h1 _ f1 m1 q1⟩
theorem jw_or {a b : Expr} {rest : List Expr} {ma mb : TM} {pos : Pos} (ha : JT X W a ma) (hb : JW X W (.BoolOp .Or (b :: rest) pos) mb) : JW X W (.BoolOp .Or (a :: b :: rest) pos) (tOrM ma mb) := PW.wk (pw_or ha hb) fun σ H Q' ⟨S, h, s, Q, E, m, rs, lk, hm, pk⟩ =>
  ⟨S, h, s, _, E, m, rs, lk, hm, fun S1 H1 h1 c f1 m1 q1 => by
    cases c with
    | false => rw [if_neg Bool.false_ne_true] at q1 ⊢; exact ⟨S1, h1, s, Q, E, m1, rs.fut f1, lk.fut f1, q1, pk.fut f1⟩
    | true => rw [if_pos rfl] at q1 ⊢; exact pk S1 H1 h1 _ f1 m1 q1⟩
theorem jt_w {e : Expr} {m : TM} (h : JW X W e m) : JT X W e m := PW.pt h
theorem jt_not {a : Expr} {m : TM} {pos : Pos} (h : JT X W a m) : JT X W (.UnaryOp .Not a pos) (tNotM m) := PT.wk (pt_not h) fun σ H Q' ⟨S, h, s, Q, E, m, rs, lk, hm, pk⟩ =>
  ⟨S, h, s, _, E, m, rs, lk, hm, fun S1 H1 h1 c f1 m1 q1 => pk S1 H1 h1 _ f1 m1 q1⟩
def eAndV (a b : EM) : EM := fun s h Q E => a s h (fun x h1 => match x with
  | .bl true => b s h1 Q E
  | .bl false => Q (.bl false) h1
  | _ => False) E
def eOrV (a b : EM) : EM := fun s h Q E => a s h (fun x h1 => match x with
  | .bl true => Q (.bl true) h1
  | .bl false => b s h1 Q E
  | _ => False) E
def eNotV (a : EM) : EM := fun s h Q E => a s h (fun x h1 => match x with
  | .bl c => Q (.bl (!c)) h1
  | _ => False) E
theorem j_one {op : BoolOp} {a : Expr} {m : EM} {pos : Pos} (h : JE X W a m) : JE X W (.BoolOp op [a] pos) m := pe_one h
theorem j_and {a b : Expr} {rest : List Expr} {ma mb : EM} {pos : Pos} (ha : JE X W a ma) (hb : JE X W (.BoolOp .And (b :: rest) pos) mb) : JE X W (.BoolOp .And (a :: b :: rest) pos) (eAndV ma mb) := PE.wk (pe_and ha hb) fun σ H Q' ⟨S, h, s, Q, E, m, rs, lk, hm, pk⟩ =>
  ⟨S, h, s, _, E, m, rs, lk, hm, fun S1 H1 h1 v x f1 m1 r1 q1 => by
    split at q1
    · cases r1; refine ⟨true, rfl, ?_⟩; rw [if_pos rfl]; exact ⟨S1, h1, s, Q, E, m1, rs.fut f1, lk.fut f1, q1, pk.fut f1⟩
    · cases r1; refine ⟨false, rfl, ?_⟩; rw [if_neg Bool.false_ne_true]; exact pk S1 H1 h1 _ _ f1 m1 (.bl false) q1
    · exact q1.elim⟩
theorem j_or {a b : Expr} {rest : List Expr} {ma mb : EM} {pos : Pos} (ha : JE X W a ma) (hb : JE X W (.BoolOp .Or (b :: rest) pos) mb) : JE X W (.BoolOp .Or (a :: b :: rest) pos) (eOrV ma mb) := PE.wk (pe_or ha hb) fun σ H Q' ⟨S, h, s, Q, E, m, rs, lk, hm, pk⟩ =>
  ⟨S, h, s, _, E, m, rs, lk, hm, fun S1 H1 h1 v x f1 m1 r1 q1 => by
    split at q1
    · cases r1; refine ⟨true, rfl, ?_⟩; rw [if_pos rfl]; exact pk S1 H1 h1 _ _ f1 m1 (.bl true) q1
    · cases r1; refine ⟨false, rfl, ?_⟩; rw [if_neg Bool.false_ne_true]; exact ⟨S1, h1, s, Q, E, m1, rs.fut f1, lk.fut f1, q1, pk.fut f1⟩
    · exact q1.elim⟩
theorem j_not {a : Expr} {ma : EM} {pos : Pos} (ha : JE X W a ma) : JE X W (.UnaryOp .Not a pos) (eNotV ma) := PE.wk (pe_not ha) fun σ H Q' ⟨S, h, s, Q, E, m, rs, lk, hm, pk⟩ =>
  ⟨S, h, s, _, E, m, rs, lk, hm, fun S1 H1 h1 v x f1 m1 r1 q1 => by
    split at q1
    · cases r1; exact ⟨_, rfl, pk S1 H1 h1 _ _ f1 m1 (.bl _) q1⟩
    · exact q1.elim⟩
def eIf (c : TM) (a b : EM) : EM := fun s h Q E => c s h (fun d h1 => if d = true then a s h1 Q E else b s h1 Q E) E
theorem j_if {c a b : Expr} {mc : TM} {ma mb : EM} {pos : Pos} (hc : JT X W c mc) (ha : JE X W a ma) (hb : JE X W b mb) : JE X W (.IfExp c a b pos) (eIf mc ma mb) := PE.wk (pe_ifExp hc ha hb) fun σ H Q' ⟨S, h, s, Q, E, m, rs, lk, hm, pk⟩ =>
  ⟨S, h, s, _, E, m, rs, lk, hm, fun S1 H1 h1 c f1 m1 q1 => by
    cases c with
    | true => rw [if_pos rfl] at q1 ⊢; exact ⟨S1, h1, s, Q, E, m1, rs.fut f1, lk.fut f1, q1, pk.fut f1⟩
    | false => rw [if_neg Bool.false_ne_true] at q1 ⊢; exact ⟨S1, h1, s, Q, E, m1, rs.fut f1, lk.fut f1, q1, pk.fut f1⟩⟩

/-! ### arguments -/
def aNil : AM := fun _ h Q _ => Q [] h
def aCons (a : EM) (r : AM) : AM := fun s h Q E => a s h (fun x h1 => r s h1 (fun xs h2 => Q (x :: xs) h2) E) E
theorem ja_nil : JA X W [] aNil := PA.wk pa_nil fun σ H Q' ⟨S, h, s, Q, E, m, rs, lk, hm, pk⟩ => pk S H h _ _ Fut.refl m .nil hm
end
end TL

namespace TL
open PySem L2
section
variable {X : Cx} {W : WX} {K : PySem.W.Frag} {S : Fz} {H : Hp} {h : Hq}
theorem ja_cons {e : Expr} {es : List Expr} {m : EM} {r : AM} (he : JE X W e m) (hr : JA X W es r) (hs : starEach (e :: es) X.env = (false, eval e X.env) :: starEach es X.env := by rfl) : JA X W (e :: es) (aCons m r) := PA.wk (pa_cons he hr hs) fun σ H Q' ⟨S, h, s, Q, E, m, rs, lk, hm, pk⟩ =>
  ⟨S, h, s, _, E, m, rs, lk, hm, fun S1 H1 h1 v x f1 m1 r1 q1 => ⟨S1, h1, s, _, E, m1, rs.fut f1, lk.fut f1, q1, fun S2 H2 h2 vs xs f2 m2 r2 q2 => pk S2 H2 h2 _ _ (f1.trans f2) m2 (.cons (r1.fut f2) r2) q2⟩⟩

/-! ### lists, tuples -/
def lsOf (h : Hq) : T → Option (List T)
  | .lst ts => some ts
  | .ref a => match h a with
    | some (.lst ts) => some ts
    | _ => none
  | _ => none
theorem lsOf_ok (m : Sim K S H h) {v : V} {x : T} {ts : List T} (r : Rep K S H v x) (e : lsOf h x = some ts) : ∃ a vs, v = .ref a ∧ H a = some (.lst vs) ∧ RepL K S H vs ts := by
  cases r with
  | lst s hh q => cases e; exact ⟨_, _, rfl, hh, q⟩
  | ref a =>
    simp only [lsOf] at e
    cases z : h a with
    | none => rw [z] at e; cases e
    | some o =>
      rw [z] at e
      cases o with
      | lst ts' =>
        cases e
        obtain ⟨u, e1, vs, e2, r2⟩ := m.ob a _ z
        subst e2
        exact ⟨a, vs, rfl, e1, r2⟩
      | ins C fs => cases e
      | pool => cases e
  | non => cases e
  | bl b => cases e
  | int i => cases e
  | str x => cases e
  | tup _ _ _ => cases e
  | tupK _ _ => cases e
  | ins _ _ _ => cases e
  | ty n => cases e
  | scr _ _ => cases e
  | scrK _ => cases e
  | exc _ _ _ => cases e
  | exc0 => cases e
/-- a new list: frozen at once, or followed -/
def mk (fl : Bool) (ts : List T) (h : Hq) (Q : TK) : Prop := if fl = true then Q (.lst ts) h else ∀ p, h p = none → Q (.ref p) (put h p (.lst ts))
@[simp] theorem mk_true {ts : List T} {h : Hq} {Q : TK} : mk true ts h Q = Q (.lst ts) h := by unfold mk; rw [if_pos rfl]
@[simp] theorem mk_false {ts : List T} {h : Hq} {Q : TK} : mk false ts h Q = ∀ p, h p = none → Q (.ref p) (put h p (.lst ts)) := by unfold mk; rw [if_neg Bool.false_ne_true]
theorem mk_ok (m : Sim K S H h) {fl : Bool} {vs : List V} {ts : List T} {Q : TK} {Q' : VK} (r : RepL K S H vs ts) (q : mk fl ts h Q) (pk : PK K S H Q Q') : ∀ p, H p = none → Q' (.ref p) (upd H p (.lst vs)) := fun p hp => by
  cases fl with
  | true =>
    rw [mk_true] at q
    obtain ⟨m1, f1⟩ := m.frozen (u := .lst vs) hp
    exact pk _ _ h _ _ f1 m1 (.lst (.inr rfl) upd_same (r.fut f1)) q
  | false =>
    rw [mk_false] at q
    exact pk S _ _ _ _ (fut_upd (m.nS hp)) (m.new (o := .lst ts) hp ⟨vs, rfl, r⟩) (.ref p) (q p (m.free hp))
theorem tup_ok (m : Sim K S H h) {vs : List V} {ts : List T} {Q : TK} {Q' : VK} (r : RepL K S H vs ts) (q : Q (.tup ts) h) (pk : PK K S H Q Q') : ∀ p, H p = none → Q' (.ref p) (upd H p (.tup vs)) := fun p hp => by
  obtain ⟨m1, f1⟩ := m.frozen (u := .tup vs) hp
  exact pk _ _ h _ _ f1 m1 (.tup (.inr rfl) upd_same (r.fut f1)) q
abbrev lim : Nat := 1000000
theorem lim_le {n : Nat} (h : n ≤ lim) : n ≤ sizeLine := Nat.le_trans h (by decide)
theorem lim_lt {n : Nat} (h : n ≤ lim) : n < sizeLine := Nat.lt_of_le_of_lt h (by decide)
def eTup (a : AM) : EM := fun s h Q E => a s h (fun ts h1 => ts.length ≤ lim ∧ Q (.tup ts) h1) E
def eLst (fl : Bool) (a : AM) : EM := fun s h Q E => a s h (fun ts h1 => ts.length ≤ lim ∧ mk fl ts h1 Q) E
theorem j_tup {es : List Expr} {a : AM} {x1} {pos : Pos} (ha : JA X W es a) : JE X W (.Tuple es x1 pos) (eTup a) := PE.wk (pe_tup ha) fun σ H Q' ⟨S, h, s, Q, E, m, rs, lk, hm, pk⟩ =>
  ⟨S, h, s, _, E, m, rs, lk, hm, fun S1 H1 h1 vs ts f1 m1 r1 ⟨l, q1⟩ => ⟨lim_le (by rw [r1.length]; exact l), tup_ok m1 r1 q1 (pk.fut f1)⟩⟩
theorem j_lst (fl : Bool) {es : List Expr} {a : AM} {pos : Pos} (ha : JA X W es a) : JE X W (.List es pos) (eLst fl a) := PE.wk (pe_lst ha) fun σ H Q' ⟨S, h, s, Q, E, m, rs, lk, hm, pk⟩ =>
  ⟨S, h, s, _, E, m, rs, lk, hm, fun S1 H1 h1 vs ts f1 m1 r1 ⟨l, q1⟩ => ⟨lim_le (by rw [r1.length]; exact l), mk_ok m1 r1 q1 (pk.fut f1)⟩⟩
/-- freezing a followed list -/
def frzK (Q : TK) : TK := fun x h1 => match x with
  | .ref p => match h1 p with
    | some (.lst ts) => Q (.lst ts) (del h1 p)
    | _ => Q (.ref p) h1
  | x => Q x h1
def eFrz (a : EM) : EM := fun s h Q E => a s h (frzK Q) E
theorem frz_ok (m : Sim K S H h) {v : V} {x : T} {Q : TK} {Q' : VK} (r : Rep K S H v x) (pk : PK K S H Q Q') (q : frzK Q x h) : Q' v H := by
  unfold frzK at q
  cases r with
  | ref p =>
    dsimp only at q
    split at q
    · rename_i ts e
      obtain ⟨u, e1, vs, e2, r2⟩ := m.ob p _ e
      subst e2
      have f : Fut S H (plus S p) H := fut_plus Fut.refl
      exact pk _ H _ _ _ f (m.freeze e) (.lst (.inr rfl) e1 (r2.fut f)) q
    · exact pk S H h _ _ Fut.refl m (.ref p) q
  | non => exact pk S H h _ _ Fut.refl m .non q
  | bl b => exact pk S H h _ _ Fut.refl m (.bl b) q
  | int i => exact pk S H h _ _ Fut.refl m (.int i) q
  | str x => exact pk S H h _ _ Fut.refl m (.str x) q
  | tup a b c => exact pk S H h _ _ Fut.refl m (.tup a b c) q
  | tupK a b => exact pk S H h _ _ Fut.refl m (.tupK a b) q
  | lst a b c => exact pk S H h _ _ Fut.refl m (.lst a b c) q
  | ins a b c => exact pk S H h _ _ Fut.refl m (.ins a b c) q
  | ty n => exact pk S H h _ _ Fut.refl m (.ty n) q
  | scr a b => exact pk S H h _ _ Fut.refl m (.scr a b) q
  | scrK b => exact pk S H h _ _ Fut.refl m (.scrK b) q
  | exc a b c => exact pk S H h _ _ Fut.refl m (.exc a b c) q
  | exc0 => exact pk S H h _ _ Fut.refl m .exc0 q
theorem j_frz {e : Expr} {a : EM} (he : JE X W e a) : JE X W e (eFrz a) := PE.wk he fun σ H Q' ⟨S, h, s, Q, E, m, rs, lk, hm, pk⟩ =>
  ⟨S, h, s, _, E, m, rs, lk, hm, fun S1 H1 h1 v x f1 m1 r1 q1 => frz_ok m1 r1 (pk.fut f1) q1⟩

/-! ### numbers -/
def MulOk (i j : Int) : Prop := i.natAbs < 2 ^ 64 ∨ j.natAbs < 2 ^ 64 ∨ (i.natAbs < 2 ^ 250 ∧ j.natAbs < 2 ^ 250)
def oI (g : Int → Int → T) : R2T := fun x y h Q => match x, y with
  | .int i, .int j => Q (g i j) h
  | _, _ => False
theorem op_I {g : Int → Int → V} {g' : Int → Int → T} (e : ∀ S H i j, Rep K S H (g i j) (g' i j)) : OP K (rI0 g) (oI g') := fun S H h v w x y Q Q' m r1 r2 q pk => by
  cases r1 <;> cases r2 <;> first | exact q.elim | skip
  exact ⟨_, _, rfl, rfl, pk S H h _ _ Fut.refl m (e S H _ _) q⟩
def oIC (C : Int → Int → Prop) (g : Int → Int → T) : R2T := fun x y h Q => match x, y with
  | .int i, .int j => C i j ∧ Q (g i j) h
  | _, _ => False
theorem op_IC {C C' : Int → Int → Prop} {g : Int → Int → V} {g' : Int → Int → T} (c : ∀ i j, C' i j → C i j) (e : ∀ S H i j, Rep K S H (g i j) (g' i j)) : OP K (rI C g) (oIC C' g') := fun S H h v w x y Q Q' m r1 r2 q pk => by
  cases r1 <;> cases r2 <;> first | exact q.elim | skip
  exact ⟨_, _, rfl, rfl, c _ _ q.1, pk S H h _ _ Fut.refl m (e S H _ _) q.2⟩
theorem OP.or {r r' : R2} {o o' u : R2T} (a : OP K r o) (b : OP K r' o') (c : ∀ x y h Q, u x y h Q → o x y h Q ∨ o' x y h Q) : OP K (fun x y H Q => r x y H Q ∨ r' x y H Q) u := fun S H h v w x y Q Q' m r1 r2 q pk => by
  rcases c x y h Q q with q | q
  · exact .inl (a S H h v w x y Q Q' m r1 r2 q pk)
  · exact .inr (b S H h v w x y Q Q' m r1 r2 q pk)

def oSub : R2T := oI fun i j => .int (i - j)
def oMod : R2T := oIC (fun _ j => 0 < j) fun i j => .int (i % j)
def oDiv : R2T := oIC (fun _ j => 0 < j ∧ j < 2 ^ 250) fun i j => .int (i / j)
def oPow : R2T := oIC (fun i j => 0 ≤ j ∧ j ≤ 1000 ∧ i.natAbs < 2 ^ 64) fun i j => .int (i ^ j.toNat)
def oLt : R2T := oI fun i j => .bl (decide (i < j))
def oLe : R2T := oI fun i j => .bl (decide (i ≤ j))
def oGt : R2T := oI fun i j => .bl (decide (j < i))
def oGe : R2T := oI fun i j => .bl (decide (j ≤ i))
theorem p_sub : OP K (rI0 fun i j => .int (i - j)) oSub := op_I fun _ _ _ _ => .int _
theorem p_mod : OP K (rI (fun _ j => 0 < j) fun i j => .int (i % j)) oMod := op_IC (fun _ _ c => c) fun _ _ _ _ => .int _
theorem p_div : OP K (rI CDivW fun i j => .int (i / j)) oDiv := op_IC (fun i j c => wide_div (b := 250) c.1 (by have := c.1; have := c.2; omega) (by decide) (by decide)) fun _ _ _ _ => .int _
theorem p_pow : OP K (rI CPow fun i j => .int (i ^ j.toNat)) oPow := op_IC (fun i j c => ⟨c.1, by have := c.2.1; omega, c.2.2⟩) fun _ _ _ _ => .int _
theorem p_lt : OP K (rI0 fun i j => .bl (decide (i < j))) oLt := op_I fun _ _ _ _ => .bl _
theorem p_le : OP K (rI0 fun i j => .bl (decide (i ≤ j))) oLe := op_I fun _ _ _ _ => .bl _
theorem p_gt : OP K (rI0 fun i j => .bl (decide (j < i))) oGt := op_I fun _ _ _ _ => .bl _
theorem p_ge : OP K (rI0 fun i j => .bl (decide (j ≤ i))) oGe := op_I fun _ _ _ _ => .bl _
/-- + of ints, texts, lists -/
def oAdd (fl : Bool) : R2T := fun x y h Q => match x, y with
  | .int i, .int j => Q (.int (i + j)) h
  | .str a, .str b => a.length + b.length ≤ lim ∧ Q (.str (a ++ b)) h
  | x, y => match lsOf h x, lsOf h y with
    | some xs, some ys => xs.length + ys.length ≤ lim ∧ mk fl (xs ++ ys) h Q
    | _, _ => False
def rAdd : R2 := fun x y H Q => (∃ i j, x = .int i ∧ y = .int j ∧ Q (.int (i + j)) H) ∨ (∃ i j, x = .str i ∧ y = .str j ∧ i.length + j.length ≤ sizeLine ∧ Q (.str (i ++ j)) H) ∨ rCat x y H Q
theorem o_add : OpR X (binaryOp .Add) rAdd := OpR.or op_add (OpR.or op_add_str op_cat)
theorem p_add (fl : Bool) : OP K rAdd (oAdd fl) := fun S H h v w x y Q Q' m r1 r2 q pk => by
  unfold oAdd at q
  split at q
  · cases r1; cases r2; exact .inl ⟨_, _, rfl, rfl, pk S H h _ _ Fut.refl m (.int _) q⟩
  · cases r1; cases r2; exact .inr (.inl ⟨_, _, rfl, rfl, lim_le q.1, pk S H h _ _ Fut.refl m (.str _) q.2⟩)
  · split at q
    · rename_i xs ys e1 e2
      obtain ⟨a, vs, rfl, ha, ra⟩ := lsOf_ok m r1 e1
      obtain ⟨b, ws, rfl, hb, rb⟩ := lsOf_ok m r2 e2
      exact .inr (.inr ⟨a, b, vs, ws, rfl, rfl, ha, hb, lim_le (by rw [ra.length, rb.length]; exact q.1), mk_ok m (ra.append rb) q.2 pk⟩)
    · exact q.elim
def oMul (fl : Bool) : R2T := fun x y h Q => match x, y with
  | .int i, .int j => MulOk i j ∧ Q (.int (i * j)) h
  | x, .int k => match lsOf h x with
    | some xs => 0 ≤ k ∧ k ≤ 1000000 ∧ xs.length * k.toNat ≤ lim ∧ mk fl (List.replicate k.toNat xs).flatten h Q
    | none => False
  | _, _ => False
def rMulA : R2 := fun x y H Q => rI CMul (fun i j => .int (i * j)) x y H Q ∨ rI CMulW (fun i j => .int (i * j)) x y H Q ∨ rRep x y H Q
theorem o_mul : OpR X (binaryOp .Mult) rMulA := OpR.or op_mul (OpR.or op_mulW op_rep)
theorem p_mul (fl : Bool) : OP K rMulA (oMul fl) := fun S H h v w x y Q Q' m r1 r2 q pk => by
  unfold oMul at q
  split at q
  · cases r1; cases r2
    rename_i i j
    have fin := pk S H h _ _ Fut.refl m (.int (i * j)) q.2
    rcases q.1 with c | c | ⟨c, d⟩
    · exact .inl ⟨_, _, rfl, rfl, .inl (by omega), fin⟩
    · exact .inl ⟨_, _, rfl, rfl, .inr (by omega), fin⟩
    · exact .inr (.inl ⟨_, _, rfl, rfl, wide_mul (a := 250) (b := 250) c d (by decide) (by decide) (by decide), fin⟩)
  · split at q
    · rename_i xs e1
      obtain ⟨a, vs, rfl, ha, ra⟩ := lsOf_ok m r1 e1
      obtain ⟨k0, k1, k2, q⟩ := q
      cases r2
      exact .inr (.inr ⟨a, _, vs, rfl, rfl, ha, by omega, by omega, lim_le (by rw [ra.length]; exact k2), mk_ok m (ra.replicate _) q pk⟩)
    · exact q.elim
  · exact q.elim
/-- -a -/
def eNeg (a : EM) : EM := fun s h Q E => a s h (fun x h1 => match x with
  | .int i => Q (.int (-i)) h1
  | _ => False) E
theorem j_neg {a : Expr} {m : EM} {pos : Pos} (ha : JE X W a m) : JE X W (.UnaryOp .USub a pos) (eNeg m) := PE.wk (pe_un un_neg ha) fun σ H Q' ⟨S, h, s, Q, E, m, rs, lk, hm, pk⟩ =>
  ⟨S, h, s, _, E, m, rs, lk, hm, fun S1 H1 h1 v x f1 m1 r1 q1 => by
    split at q1
    · cases r1; exact ⟨_, rfl, pk S1 H1 h1 _ _ f1 m1 (.int _) q1⟩
    · exact q1.elim⟩
/-- is None -/
def oIsN : R2T := fun x y h Q => match y with
  | .non => match x with
    | .non => Q (.bl true) h
    | _ => Q (.bl false) h
  | _ => False
def oNotN : R2T := fun x y h Q => match y with
  | .non => match x with
    | .non => Q (.bl false) h
    | _ => Q (.bl true) h
  | _ => False
theorem p_isN : OP K (fun x y H Q => y = .non ∧ Q (.bl (decide (x = .non))) H) oIsN := fun S H h v w x y Q Q' m r1 r2 q pk => by
  cases r2 <;> first | exact q.elim | skip
  refine ⟨rfl, ?_⟩
  cases r1 <;> first
    | exact pk S H h _ _ Fut.refl m (.bl true) q
    | exact pk S H h _ _ Fut.refl m (.bl false) q
theorem p_notN : OP K (fun x y H Q => y = .non ∧ Q (.bl (!decide (x = .non))) H) oNotN := fun S H h v w x y Q Q' m r1 r2 q pk => by
  cases r2 <;> first | exact q.elim | skip
  refine ⟨rfl, ?_⟩
  cases r1 <;> first
    | exact pk S H h _ _ Fut.refl m (.bl false) q
    | exact pk S H h _ _ Fut.refl m (.bl true) q

/-! ### == -/
mutual
def toD : T → Option PyData
  | .non => some .none
  | .bl b => some (.bool b)
  | .int i => some (.int i)
  | .str x => if PyData.strOk x = true then some (.str x) else none
  | .tup ts => (toDs ts).map .tuple
  | .lst ts => (toDs ts).map .list
  | _ => none
def toDs : List T → Option (List PyData)
  | [] => some []
  | t :: ts => match toD t, toDs ts with
    | some d, some ds => some (d :: ds)
    | _, _ => none
end
mutual
theorem toD_ok : ∀ {t : T} {v : V} {d : PyData}, Rep K S H v t → toD t = some d → Dp K H v d ∧ d.canLay0 = true
  | _, _, d, .non, e => by cases e; exact ⟨.non, rfl⟩
  | _, _, d, .bl b, e => by cases e; exact ⟨.bl b, rfl⟩
  | _, _, d, .int i, e => by cases e; exact ⟨.int i, rfl⟩
  | _, _, d, .str x, e => by
    unfold toD at e
    split at e
    · rename_i hs; cases e; exact ⟨.str x, by unfold PyData.canLay0; exact hs⟩
    · cases e
  | .tup ts, _, d, .tup s hh r, e => by
    unfold toD at e
    cases z : toDs ts with
    | none => rw [z] at e; cases e
    | some ds => rw [z] at e; cases e; exact ⟨.tup (SqT.of hh) (toDs_ok r z).1, by unfold PyData.canLay0; exact (toDs_ok r z).2⟩
  | .tup ts, _, d, .tupK hh r, e => by
    unfold toD at e
    cases z : toDs ts with
    | none => rw [z] at e; cases e
    | some ds => rw [z] at e; cases e; exact ⟨.tup (.inr hh) (toDs_ok r z).1, by unfold PyData.canLay0; exact (toDs_ok r z).2⟩
  | .lst ts, _, d, .lst s hh r, e => by
    unfold toD at e
    cases z : toDs ts with
    | none => rw [z] at e; cases e
    | some ds => rw [z] at e; cases e; exact ⟨.lst (SqL.of hh) (toDs_ok r z).1, by unfold PyData.canLay0; exact (toDs_ok r z).2⟩
  | _, _, d, .ins _ _ _, e => by cases e
  | _, _, d, .ref _, e => by cases e
  | _, _, d, .ty _, e => by cases e
  | _, _, d, .scr _ _, e => by cases e
  | _, _, d, .scrK _, e => by cases e
theorem toDs_ok : ∀ {ts : List T} {vs : List V} {ds : List PyData}, RepL K S H vs ts → toDs ts = some ds → DpAll K H vs ds ∧ PyData.canLayAll0 ds = true
  | _, _, ds, .nil, e => by cases e; exact ⟨.nil, rfl⟩
  | t :: ts, _, ds, .cons r q, e => by
    unfold toDs at e
    split at e
    · rename_i d ds' e1 e2
      cases e
      obtain ⟨a1, a2⟩ := toD_ok r e1
      obtain ⟨b1, b2⟩ := toDs_ok q e2
      exact ⟨.cons a1 b1, by unfold PyData.canLayAll0; rw [a2, b2]; rfl⟩
    · cases e
end
/-- what a value shows: a followed list by its items -/
def view (h : Hq) : T → T
  | .ref a => match h a with
    | some (.lst ts) => .lst ts
    | _ => .ref a
  | x => x
def eqT (x y : T) : Bool := match toD x, toD y with
  | some d, some e => PyData.eqv d e
  | _, _ => false
def depth? (x : T) : Bool := match toD x with
  | some d => decide (d.depth ≤ 64)
  | none => false
theorem view_ok (m : Sim K S H h) {v : V} {x : T} {d : PyData} (r : Rep K S H v x) (e : toD (view h x) = some d) : Dp K H v d ∧ d.canLay0 = true := by
  cases r with
  | ref a =>
    simp only [view] at e
    cases z : h a with
    | none => rw [z] at e; cases e
    | some o =>
      rw [z] at e
      cases o with
      | lst ts =>
        obtain ⟨u, e1, vs, e2, r2⟩ := m.ob a _ z
        subst e2
        have f : Fut S H (plus S a) H := fut_plus Fut.refl
        exact toD_ok (S := plus S a) (.lst (.inr rfl) e1 (r2.fut f)) e
      | ins C fs => cases e
      | pool => cases e
  | non => exact toD_ok (S := S) .non e
  | bl b => exact toD_ok (S := S) (.bl b) e
  | int i => exact toD_ok (S := S) (.int i) e
  | str x => exact toD_ok (S := S) (.str x) e
  | tup a b c => exact toD_ok (.tup a b c) e
  | tupK a b => exact toD_ok (.tupK a b) e
  | lst a b c => exact toD_ok (.lst a b c) e
  | ins a b c => exact toD_ok (.ins a b c) e
  | ty n => exact toD_ok (S := S) (.ty n) e
  | scr a b => exact toD_ok (.scr a b) e
  | scrK b => exact toD_ok (S := S) (.scrK b) e
  | exc a b c => exact toD_ok (.exc a b c) e
  | exc0 => exact toD_ok (S := S) .exc0 e
def oEq : R2T := fun x y h Q => depth? (view h x) = true ∧ depth? (view h y) = true ∧ Q (.bl (eqT (view h x) (view h y))) h
def oNe : R2T := fun x y h Q => depth? (view h x) = true ∧ depth? (view h y) = true ∧ Q (.bl (!eqT (view h x) (view h y))) h
theorem depth?_ok {x : T} (e : depth? x = true) : ∃ d, toD x = some d ∧ d.depth ≤ 64 := by
  unfold depth? at e
  split at e
  · exact ⟨_, by assumption, of_decide_eq_true e⟩
  · cases e
theorem p_eq : OP K (rEqD K) oEq := fun S H h v w x y Q Q' m r1 r2 q pk => by
  obtain ⟨q1, q2, q⟩ := q
  obtain ⟨d, e1, n1⟩ := depth?_ok q1
  obtain ⟨e, e2, n2⟩ := depth?_ok q2
  obtain ⟨a1, a2⟩ := view_ok m r1 e1
  obtain ⟨b1, b2⟩ := view_ok m r2 e2
  unfold eqT at q
  rw [e1, e2] at q
  exact ⟨d, e, a1, b1, by unfold SeqAt.shaped; rw [a2]; simpa using n1, by unfold SeqAt.shaped; rw [b2]; simpa using n2, pk S H h _ _ Fut.refl m (.bl _) q⟩
theorem p_ne : OP K (rNeD K) oNe := fun S H h v w x y Q Q' m r1 r2 q pk => by
  obtain ⟨q1, q2, q⟩ := q
  obtain ⟨d, e1, n1⟩ := depth?_ok q1
  obtain ⟨e, e2, n2⟩ := depth?_ok q2
  obtain ⟨a1, a2⟩ := view_ok m r1 e1
  obtain ⟨b1, b2⟩ := view_ok m r2 e2
  unfold eqT at q
  rw [e1, e2] at q
  exact ⟨d, e, a1, b1, by unfold SeqAt.shaped; rw [a2]; simpa using n1, by unfold SeqAt.shaped; rw [b2]; simpa using n2, pk S H h _ _ Fut.refl m (.bl _) q⟩
/-- in, not in a list, by == -/
def inT (x : T) (ys : List T) : Bool := ys.any fun y => eqT y x
def oIn (neg : Bool) : R2T := fun x y h Q => match view h y with
  | .lst ys => depth? (view h x) = true ∧ depth? (.lst ys) = true ∧ Q (.bl (inT (view h x) ys != neg)) h
  | _ => False
theorem any_toD {x : T} {d : PyData} (e : toD x = some d) : ∀ {ys : List T} {ds : List PyData}, toDs ys = some ds → (ds.any fun z => PyData.eqv z d) = inT x ys
  | [], _, z => by cases z; rfl
  | y :: ys, _, z => by
    unfold toDs at z
    split at z
    · rename_i c cs e1 e2
      cases z
      show (PyData.eqv c d || cs.any fun z => PyData.eqv z d) = (eqT y x || inT x ys)
      rw [any_toD e e2]
      unfold eqT
      rw [e1, e]
    · cases z
theorem in_parts (m : Sim K S H h) {v w : V} {x y : T} {ys : List T} (r1 : Rep K S H v x) (r2 : Rep K S H w y) (ey : view h y = .lst ys) (q1 : depth? (view h x) = true) (q2 : depth? (.lst ys) = true) :
    ∃ d ds, Dp K H v d ∧ Dp K H w (.list ds) ∧ SeqAt.shaped d = true ∧ SeqAt.shaped (.list ds) = true ∧ (ds.any fun z => PyData.eqv z d) = inT (view h x) ys := by
  obtain ⟨d, e1, n1⟩ := depth?_ok q1
  obtain ⟨e, e2, n2⟩ := depth?_ok q2
  obtain ⟨a1, a2⟩ := view_ok m r1 e1
  have e2' := e2
  rw [← ey] at e2'
  obtain ⟨b1, b2⟩ := view_ok m r2 e2'
  cases z : toDs ys with
  | none => unfold toD at e2; rw [z] at e2; cases e2
  | some ds =>
    unfold toD at e2; rw [z] at e2; cases e2
    exact ⟨d, ds, a1, b1, by unfold SeqAt.shaped; rw [a2]; simpa using n1, by unfold SeqAt.shaped; rw [b2]; simpa using n2, any_toD e1 z⟩
theorem p_in : OP K (rInD K) (oIn false) := fun S H h v w x y Q Q' m r1 r2 q pk => by
  unfold oIn at q
  split at q
  · rename_i ys ey
    obtain ⟨q1, q2, q⟩ := q
    obtain ⟨d, ds, a, b, c1, c2, e⟩ := in_parts m r1 r2 ey q1 q2
    rw [← e] at q
    exact ⟨d, ds, a, b, c1, c2, pk S H h _ _ Fut.refl m (.bl _) (by simpa using q)⟩
  · exact q.elim
theorem p_notIn : OP K (rNotInD K) (oIn true) := fun S H h v w x y Q Q' m r1 r2 q pk => by
  unfold oIn at q
  split at q
  · rename_i ys ey
    obtain ⟨q1, q2, q⟩ := q
    obtain ⟨d, ds, a, b, c1, c2, e⟩ := in_parts m r1 r2 ey q1 q2
    rw [← e] at q
    exact ⟨d, ds, a, b, c1, c2, pk S H h _ _ Fut.refl m (.bl _) (by simpa using q)⟩
  · exact q.elim
end
end TL

namespace TL
open PySem L2
section
variable {X : Cx} {W : WX} {K : PySem.W.Frag} {S : Fz} {H : Hp} {h : Hq}
/-! ### subscripts, slices -/
theorem atI_rep {vs : List V} {ts : List T} {i : Int} {t : T} (r : RepL K S H vs ts) (e : atI ts i = some t) : ∃ v, atI vs i = some v ∧ Rep K S H v t := by
  unfold atI at *
  rw [r.length]
  cases z : ixN ts.length i with
  | none => rw [z] at e; cases e
  | some j => rw [z] at e; exact r.get e
def atK (ts : List T) (i : Int) (h : Hq) (Q : TK) : Prop := match atI ts i with
  | some t => Q t h
  | none => False
def oIx : R2T := fun x y h Q => match y with
  | .int i => match x with
    | .tup ts => atK ts i h Q
    | .scr ns => atK (ns.map T.int) i h Q
    | .str z => z.length ≤ lim ∧ match atI z.cps.toList i with
      | some c => Q (.str ⟨#[c]⟩) h
      | none => False
    | x => match lsOf h x with
      | some ts => atK ts i h Q
      | none => False
  | _ => False
theorem atK_ok (m : Sim K S H h) {vs : List V} {ts : List T} {i : Int} {Q : TK} {Q' : VK} (r : RepL K S H vs ts) (q : atK ts i h Q) (pk : PK K S H Q Q') : ∃ v, atI vs i = some v ∧ Q' v H := by
  unfold atK at q
  split at q
  · rename_i t e
    obtain ⟨v, e1, r1⟩ := atI_rep r e
    exact ⟨v, e1, pk S H h _ _ Fut.refl m r1 q⟩
  · exact q.elim
theorem p_ix : OP K (rIx K) oIx := fun S H h v w x y Q Q' m r1 r2 q pk => by
  unfold oIx at q
  split at q
  · rename_i i
    cases r2
    split at q
    · rename_i ts
      cases r1 with
      | tup s hh r => obtain ⟨u, e, q'⟩ := atK_ok m r q pk; exact .inr (.inl ⟨_, _, i, u, rfl, rfl, SqT.of hh, e, q'⟩)
      | tupK hh r => obtain ⟨u, e, q'⟩ := atK_ok m r q pk; exact .inr (.inl ⟨_, _, i, u, rfl, rfl, .inr hh, e, q'⟩)
    · obtain ⟨a, rfl, hh, _⟩ := r1.scr_sq
      obtain ⟨u, e, q'⟩ := atK_ok m (RepL.of_ints _) q pk
      exact .inl ⟨_, _, i, u, rfl, rfl, hh, e, q'⟩
    · cases r1
      obtain ⟨l, q⟩ := q
      split at q
      · rename_i c e
        exact .inr (.inr ⟨_, i, c, rfl, rfl, lim_le l, e, pk S H h _ _ Fut.refl m (.str _) q⟩)
      · exact q.elim
    · split at q
      · rename_i ts e
        obtain ⟨a, vs, rfl, ha, r⟩ := lsOf_ok m r1 e
        obtain ⟨u, e, q'⟩ := atK_ok m r q pk
        exact .inl ⟨a, vs, i, u, rfl, rfl, SqL.of ha, e, q'⟩
      · exact q.elim
  · exact q.elim
theorem j_ix {a b : Expr} {ma mb : EM} {pos : Pos} (ha : JE X W a ma) (hb : JE X W b mb) (hs : PlainIx b := by intro _ _; rfl) : JE X W (.Subscript a b pos) (eOp oIx ma mb) := PE.wk (pe_ix ix_seq ha hb hs) (lift_op p_ix)
def mNo : OM := fun _ h Q _ => Q none h
def mPart (a : EM) : OM := fun s h Q E => a s h (fun x h1 => match x with
  | .int i => Q (some i) h1
  | _ => False) E
theorem jo_none : JO X W none mNo := PO.wk po_none fun σ H Q' ⟨S, h, s, Q, E, m, rs, lk, hm, pk⟩ => pk S H h _ Fut.refl m hm
theorem jo_some {e : Expr} {m : EM} (he : JE X W e m) : JO X W (some e) (mPart m) := PO.wk (po_some he) fun σ H Q' ⟨S, h, s, Q, E, m, rs, lk, hm, pk⟩ =>
  ⟨S, h, s, _, E, m, rs, lk, hm, fun S1 H1 h1 v x f1 m1 r1 q1 => by
    split at q1
    · cases r1; exact ⟨_, rfl, pk S1 H1 h1 _ f1 m1 q1⟩
    · exact q1.elim⟩
def cutT (ts : List T) (lo hi : Option Int) : List T := (ts.drop (HT.sIx ts.length 0 lo)).take (HT.sIx ts.length ts.length hi - HT.sIx ts.length 0 lo)
theorem cut_rep {vs : List V} {ts : List T} (r : RepL K S H vs ts) (lo hi : Option Int) : RepL K S H (cutV vs lo hi) (cutT ts lo hi) := by
  unfold cutV cutT
  rw [r.length]
  exact (r.drop _).take _
def eSl (fl : Bool) (a : EM) (l u : OM) : EM := fun s h Q E => a s h (fun x h1 => l s h1 (fun lo h2 => u s h2 (fun hi h3 => match x with
  | .scr ns => mk fl (cutT (ns.map T.int) lo hi) h3 Q
  | x => match lsOf h3 x with
    | some ts => mk fl (cutT ts lo hi) h3 Q
    | none => False) E) E) E
theorem j_sl (fl : Bool) {a : Expr} {lo hi : Option Expr} {ma : EM} {ml mh : OM} {p2 pos : Pos} (ha : JE X W a ma) (hl : JO X W lo ml) (hh : JO X W hi mh) : JE X W (.Subscript a (.Slice lo hi none p2) pos) (eSl fl ma ml mh) := PE.wk (pe_slice sl_list ha hl hh) fun σ H Q' ⟨S, h, s, Q, E, m, rs, lk, hm, pk⟩ =>
  ⟨S, h, s, _, E, m, rs, lk, hm, fun S1 H1 h1 v x f1 m1 r1 q1 => ⟨S1, h1, s, _, E, m1, rs.fut f1, lk.fut f1, q1, fun S2 H2 h2 l f2 m2 q2 => ⟨S2, h2, s, _, E, m2, rs.fut (f1.trans f2), lk.fut (f1.trans f2), q2, fun S3 H3 h3 u f3 m3 q3 => by
    have r3 := r1.fut (f2.trans f3)
    split at q3
    · obtain ⟨a, rfl, hh, _⟩ := r3.scr_sq
      exact ⟨_, _, rfl, hh, mk_ok m3 (cut_rep (RepL.of_ints _) l u) q3 (pk.fut ((f1.trans f2).trans f3))⟩
    · split at q3
      · rename_i ts e
        obtain ⟨a, vs, rfl, ha, r⟩ := lsOf_ok m3 r3 e
        exact ⟨a, vs, rfl, SqL.of ha, mk_ok m3 (cut_rep r l u) q3 (pk.fut ((f1.trans f2).trans f3))⟩
      · exact q3.elim⟩⟩⟩

/-! ### calls of built-ins by values -/
abbrev RLT := List T → Hq → TK → Prop
def CP (K : PySem.W.Frag) (r : List V → Hp → VK → Prop) (o : RLT) : Prop := ∀ S H h vs xs Q Q', Sim K S H h → RepL K S H vs xs → o xs h Q → PK K S H Q Q' → r vs H Q'
def eCB (o : RLT) (a : AM) : EM := fun s h Q E => a s h (fun xs h1 => o xs h1 Q) E
theorem lift_cb {r : List V → Hp → VK → Prop} {o : RLT} {a : AM} (c : CP K r o) : ∀ σ H Q, liftE K W (eCB o a) σ H Q → tCB r (liftA K W a) σ H Q := fun σ H Q' ⟨S, h, s, Q, E, m, rs, lk, hm, pk⟩ =>
  ⟨S, h, s, _, E, m, rs, lk, hm, fun S1 H1 h1 vs xs f1 m1 r1 q1 => c S1 H1 h1 vs xs Q Q' m1 r1 q1 (pk.fut f1)⟩
theorem j_cb {x : Str} {id : String} {e : Expr} {es : List Expr} {a : AM} {r : List V → Hp → VK → Prop} {o : RLT} {p pos : Pos} (hc : CallR X (.builtin id) r) (c : CP X.K r o) (hg : Gl X x) (hm : X.mg x = none) (hv : bootBuiltins x = some (.builtin id)) (ha : JA X W (e :: es) a)
    (hn : x ≠ "__name__" := by decide) (hdb : (x == ("__debug__" : Str)) = false := by decide) (he : starEach (e :: es) X.env = (false, eval e X.env) :: starEach es X.env := by rfl) (hpl : (backTo pos (starEach es X.env)).any (·.1) = false := by rfl) :
    JE X W (.Call (.Name x p) (e :: es) [] pos) (eCB o a) := PE.wk (pe_callB hc hg hm hv ha hn hdb he hpl) (lift_cb c)
theorem j_cty {x : Str} {id : String} {e : Expr} {es : List Expr} {a : AM} {r : List V → Hp → VK → Prop} {o : RLT} {p pos : Pos} (hc : CallR X (.type id) r) (c : CP X.K r o) (hg : Gl X x) (hm : X.mg x = none) (hv : bootBuiltins x = some (.type id)) (ha : JA X W (e :: es) a)
    (hn : x ≠ "__name__" := by decide) (hdb : (x == ("__debug__" : Str)) = false := by decide) (he : starEach (e :: es) X.env = (false, eval e X.env) :: starEach es X.env := by rfl) (hpl : (backTo pos (starEach es X.env)).any (·.1) = false := by rfl) :
    JE X W (.Call (.Name x p) (e :: es) [] pos) (eCB o a) := PE.wk (pe_callTy hc hg hm hv ha hn hdb he hpl) (lift_cb c)
def oLen : RLT := fun xs h Q => match xs with
  | [.tup ts] => Q (.int ts.length) h
  | [.scr ns] => Q (.int ns.length) h
  | [.str z] => z.length ≤ lim ∧ Q (.int z.length) h
  | [x] => match lsOf h x with
    | some ts => Q (.int ts.length) h
    | none => False
  | _ => False
theorem c_len : CP K (fun xs H Q => ∃ x n, xs = [x] ∧ LenV K x H n ∧ Q (.int n) H) oLen := fun S H h vs xs Q Q' m r q pk => by
  unfold oLen at q
  split at q
  · cases r with
    | cons r1 rn =>
      cases rn
      cases r1 with
      | tup s hh r => exact ⟨_, _, rfl, .inr ⟨_, SqT.of hh, r.length.symm⟩, pk S H h _ _ Fut.refl m (.int _) q⟩
      | tupK hh r => exact ⟨_, _, rfl, .inr ⟨_, .inr hh, r.length.symm⟩, pk S H h _ _ Fut.refl m (.int _) q⟩
  · cases r with
    | cons r1 rn =>
      cases rn
      obtain ⟨a, rfl, hh, _⟩ := r1.scr_sq
      exact ⟨_, _, rfl, .inl ⟨_, hh, by rw [List.length_map]⟩, pk S H h _ _ Fut.refl m (.int _) q⟩
  · cases r with
    | cons r1 rn =>
      cases rn
      cases r1
      exact ⟨_, _, rfl, ⟨lim_le q.1, rfl⟩, pk S H h _ _ Fut.refl m (.int _) q.2⟩
  · cases r with
    | cons r1 rn =>
      cases rn
      split at q
      · rename_i ts e
        obtain ⟨a, vs, rfl, ha, r⟩ := lsOf_ok m r1 e
        exact ⟨_, _, rfl, .inl ⟨_, SqL.of ha, r.length.symm⟩, pk S H h _ _ Fut.refl m (.int _) q⟩
      · exact q.elim
  · exact q.elim
def oInt : RLT := fun xs h Q => match xs with
  | [.int i] => Q (.int i) h
  | [.bl b] => Q (.int (if b then 1 else 0)) h
  | _ => False
theorem c_int : CP K (fun xs H Q => (∃ i, xs = [.int i] ∧ Q (.int i) H) ∨ ∃ k, xs = [.bl k] ∧ Q (.int (if k then 1 else 0)) H) oInt := fun S H h vs xs Q Q' m r q pk => by
  unfold oInt at q
  split at q
  · cases r with
    | cons r1 rn => cases rn; cases r1; exact .inl ⟨_, rfl, pk S H h _ _ Fut.refl m (.int _) q⟩
  · cases r with
    | cons r1 rn => cases rn; cases r1; exact .inr ⟨_, rfl, pk S H h _ _ Fut.refl m (.int _) q⟩
  · exact q.elim
/-- the ints of a list of ints -/
def intsOf : List T → Option (List Int)
  | [] => some []
  | .int i :: ts => match intsOf ts with
    | some ns => some (i :: ns)
    | none => none
  | _ => none
theorem intsOf_ok : ∀ {ts : List T} {ns : List Int}, intsOf ts = some ns → ts = ns.map T.int
  | [], _, e => by cases e; rfl
  | .int i :: ts, _, e => by
    unfold intsOf at e
    split at e
    · rename_i ns z; cases e; rw [intsOf_ok z]; rfl
    · cases e
  | .non :: _, _, e => by cases e
  | .bl _ :: _, _, e => by cases e
  | .str _ :: _, _, e => by cases e
  | .tup _ :: _, _, e => by cases e
  | .lst _ :: _, _, e => by cases e
  | .ins _ _ :: _, _, e => by cases e
  | .ref _ :: _, _, e => by cases e
  | .ty _ :: _, _, e => by cases e
  | .scr _ :: _, _, e => by cases e
@[simp] theorem intsOf_map : ∀ ns : List Int, intsOf (ns.map T.int) = some ns
  | [] => rfl
  | n :: ns => by show (match intsOf (ns.map T.int) with | some ms => some (n :: ms) | none => none) = _; rw [intsOf_map ns]
def intsIn (h : Hq) (x : T) : Option (List Int) := (lsOf h x).bind intsOf
theorem intsIn_ok (m : Sim K S H h) {v : V} {x : T} {ns : List Int} (r : Rep K S H v x) (e : intsIn h x = some ns) : ∃ a, v = .ref a ∧ H a = some (.lst (ns.map V.int)) := by
  unfold intsIn at e
  cases z : lsOf h x with
  | none => rw [z] at e; cases e
  | some ts =>
    rw [z] at e
    obtain ⟨a, vs, rfl, ha, r⟩ := lsOf_ok m r z
    rw [intsOf_ok e] at r
    rw [r.ints] at ha
    exact ⟨a, rfl, ha⟩
def oSum : RLT := fun xs h Q => match xs with
  | [x] => match intsIn h x with
    | some ns => Q (.int ns.sum) h
    | none => match x with
      | .tup ts => match intsOf ts with
        | some ns => Q (.int ns.sum) h
        | none => False
      | _ => False
  | _ => False
def oSumL : RLT := fun xs h Q => match xs with
  | [x] => match intsIn h x with
    | some ns => Q (.int ns.sum) h
    | none => False
  | _ => False
theorem c_sum : CP K (rSum K) oSumL := fun S H h vs xs Q Q' m r q pk => by
  unfold oSumL at q
  split at q
  · cases r with
    | cons r1 rn =>
      cases rn
      split at q
      · rename_i ns e
        obtain ⟨a, rfl, ha⟩ := intsIn_ok m r1 e
        exact ⟨a, ns, rfl, SqL.of ha, pk S H h _ _ Fut.refl m (.int _) q⟩
      · exact q.elim
  · exact q.elim
/-- max: of two ints, of a list of ints -/
def oMax : RLT := fun xs h Q => match xs with
  | [.int i, .int j] => Q (.int (if j > i then j else i)) h
  | [x] => match intsIn h x with
    | some ns => 0 < ns.length ∧ ∀ m, m ∈ ns → (∀ y, y ∈ ns → y ≤ m) → Q (.int m) h
    | none => False
  | _ => False
def oMin : RLT := fun xs h Q => match xs with
  | [.int i, .int j] => Q (.int (if j < i then j else i)) h
  | [x] => match intsIn h x with
    | some ns => 0 < ns.length ∧ ∀ m, m ∈ ns → (∀ y, y ∈ ns → m ≤ y) → Q (.int m) h
    | none => False
  | _ => False
def rMaxA (K : PySem.W.Frag) : List V → Hp → VK → Prop := fun xs H Q => (∃ i j, xs = [.int i, .int j] ∧ Q (.int (if j > i then j else i)) H) ∨ rMax K xs H Q
def rMinA (K : PySem.W.Frag) : List V → Hp → VK → Prop := fun xs H Q => (∃ i j, xs = [.int i, .int j] ∧ Q (.int (if j < i then j else i)) H) ∨ rMin K xs H Q
theorem call_maxA (hc : X.calm = true) : CallR X (.builtin "max") (rMaxA X.K) := CallR.or (call_max2 hc) (cr_max hc)
theorem call_minA (hc : X.calm = true) : CallR X (.builtin "min") (rMinA X.K) := CallR.or (call_min2 hc) (cr_min hc)
theorem c_max : CP K (rMaxA K) oMax := fun S H h vs xs Q Q' m r q pk => by
  unfold oMax at q
  split at q
  · cases r with
    | cons r1 rn => cases rn with
      | cons r2 rn => cases rn; cases r1; cases r2; exact .inl ⟨_, _, rfl, pk S H h _ _ Fut.refl m (.int _) q⟩
  · cases r with
    | cons r1 rn =>
      cases rn
      split at q
      · rename_i ns e
        obtain ⟨a, rfl, ha⟩ := intsIn_ok m r1 e
        exact .inr ⟨a, ns, rfl, SqL.of ha, q.1, fun k hk hl => pk S H h _ _ Fut.refl m (.int _) (q.2 k hk hl)⟩
      · exact q.elim
  · exact q.elim
theorem c_min : CP K (rMinA K) oMin := fun S H h vs xs Q Q' m r q pk => by
  unfold oMin at q
  split at q
  · cases r with
    | cons r1 rn => cases rn with
      | cons r2 rn => cases rn; cases r1; cases r2; exact .inl ⟨_, _, rfl, pk S H h _ _ Fut.refl m (.int _) q⟩
  · cases r with
    | cons r1 rn =>
      cases rn
      split at q
      · rename_i ns e
        obtain ⟨a, rfl, ha⟩ := intsIn_ok m r1 e
        exact .inr ⟨a, ns, rfl, SqL.of ha, q.1, fun k hk hl => pk S H h _ _ Fut.refl m (.int _) (q.2 k hk hl)⟩
      · exact q.elim
  · exact q.elim
/-- list(x) -/
def oList (fl : Bool) : RLT := fun xs h Q => match xs with
  | [.tup ts] => mk fl ts h Q
  | [x] => match lsOf h x with
    | some ts => mk fl ts h Q
    | none => False
  | _ => False
theorem c_list (fl : Bool) : CP K (fun xs H Q => ∃ p ys, xs = [.ref p] ∧ (SqL K H p ys ∨ SqT K H p ys) ∧ ∀ l, H l = none → Q (.ref l) (upd H l (.lst ys))) (oList fl) := fun S H h vs xs Q Q' m r q pk => by
  unfold oList at q
  split at q
  · cases r with
    | cons r1 rn =>
      cases rn
      cases r1 with
      | tup s hh r => exact ⟨_, _, rfl, .inr (SqT.of hh), mk_ok m r q pk⟩
      | tupK hh r => exact ⟨_, _, rfl, .inr (.inr hh), mk_ok m r q pk⟩
  · cases r with
    | cons r1 rn =>
      cases rn
      split at q
      · rename_i ts e
        obtain ⟨a, vs, rfl, ha, r⟩ := lsOf_ok m r1 e
        exact ⟨_, _, rfl, .inl (SqL.of ha), mk_ok m r q pk⟩
      · exact q.elim
  · exact q.elim
def blsOf : List T → Option (List Bool)
  | [] => some []
  | .bl i :: ts => match blsOf ts with
    | some ns => some (i :: ns)
    | none => none
  | _ => none
theorem blsOf_ok : ∀ {ts : List T} {ns : List Bool}, blsOf ts = some ns → ts = ns.map T.bl
  | [], _, e => by cases e; rfl
  | .bl i :: ts, _, e => by
    unfold blsOf at e
    split at e
    · rename_i ns z; cases e; rw [blsOf_ok z]; rfl
    · cases e
  | .non :: _, _, e => by cases e
  | .int _ :: _, _, e => by cases e
  | .str _ :: _, _, e => by cases e
  | .tup _ :: _, _, e => by cases e
  | .lst _ :: _, _, e => by cases e
  | .ins _ _ :: _, _, e => by cases e
  | .ref _ :: _, _, e => by cases e
  | .ty _ :: _, _, e => by cases e
  | .scr _ :: _, _, e => by cases e
@[simp] theorem blsOf_map : ∀ ns : List Bool, blsOf (ns.map T.bl) = some ns
  | [] => rfl
  | n :: ns => by show (match blsOf (ns.map T.bl) with | some ms => some (n :: ms) | none => none) = _; rw [blsOf_map ns]
def oBls (g : List Bool → Bool) : RLT := fun xs h Q => match xs with
  | [x] => match (lsOf h x).bind blsOf with
    | some bs => Q (.bl (g bs)) h
    | none => False
  | _ => False
theorem c_all : CP K (rAll K) (oBls fun bs => bs.all id) := fun S H h vs xs Q Q' m r q pk => by
  unfold oBls at q
  split at q
  · cases r with
    | cons r1 rn =>
      cases rn
      split at q
      · rename_i bs e
        cases z : lsOf h _ with
        | none => rw [z] at e; cases e
        | some ts =>
          rw [z] at e
          obtain ⟨a, vs, rfl, ha, r⟩ := lsOf_ok m r1 z
          rw [blsOf_ok e] at r
          rw [r.bls] at ha
          exact ⟨a, bs, rfl, SqL.of ha, pk S H h _ _ Fut.refl m (.bl _) q⟩
      · exact q.elim
  · exact q.elim
theorem c_any : CP K (rAny K) (oBls fun bs => bs.any id) := fun S H h vs xs Q Q' m r q pk => by
  unfold oBls at q
  split at q
  · cases r with
    | cons r1 rn =>
      cases rn
      split at q
      · rename_i bs e
        cases z : lsOf h _ with
        | none => rw [z] at e; cases e
        | some ts =>
          rw [z] at e
          obtain ⟨a, vs, rfl, ha, r⟩ := lsOf_ok m r1 z
          rw [blsOf_ok e] at r
          rw [r.bls] at ha
          exact ⟨a, bs, rfl, SqL.of ha, pk S H h _ _ Fut.refl m (.bl _) q⟩
      · exact q.elim
  · exact q.elim

/-! ### a def's promise, a call of it -/
def PX (K : PySem.W.Frag) (S : Fz) (H : Hp) (E : Ex → Hq → Prop) (E' : XK) : Prop := ∀ S1 H1 h1 x cls d, Fut S H S1 H1 → Sim K S1 H1 h1 → RepX K S1 H1 cls d x → E x h1 → E' cls d H1
def liftSp (K : PySem.W.Frag) (n : Nat) (c : Con) : Sp := fun vs H Q' E' => ∃ S h ts Q E, Sim K S H h ∧ RepL K S H vs ts ∧ ts.length = n ∧ c ts h Q E ∧ PK K S H Q Q' ∧ PX K S H E E'
def eCall (n : Nat) (c : Con) (a : AM) : EM := fun s h Q E => a s h (fun ts h1 => ts.length = n ∧ c ts h1 Q fun x h2 => E x s h2) E
theorem j_call {CX : CXT} {k n : Nat} {f : Addr} {fd : FuncData} {ps : List Str} {c : Con} {x : Str} {p pos : Pos} {e : Expr} {es : List Expr} {a : AM} (F : FnOk X.prog X.w X.K X.mg X.base CX k f fd ps (liftSp X.K n c)) (hr : Room k X.A) (hg : Gl X x) (hm : X.mg x = some (.ref f))
    (hk : PySem.W.keepIn X.K (.ref f) = true) (hb : Binds X.K fd ps []) (hx : ∀ σ, PassesAt CX X σ (WE W σ)) (ha : JA X W (e :: es) a)
    (hd : (x == ("__debug__" : Str)) = false := by decide) (he : starEach (e :: es) X.env = (false, eval e X.env) :: starEach es X.env := by rfl) (hpl : (backTo pos (starEach es X.env)).any (·.1) = false := by rfl) :
    JE X W (.Call (.Name x p) (e :: es) [] pos) (eCall n c a) := PE.wk (pe_callS (E := WE W) F hr hg hm hk hb hx ha hd he hpl) fun σ H Q' ⟨S, h, s, Q, E, m, rs, lk, hm, pk⟩ =>
  ⟨S, h, s, _, E, m, rs, lk, hm, fun S1 H1 h1 vs ts f1 m1 r1 ⟨l1, q1⟩ => ⟨S1, h1, ts, Q, _, m1, r1, l1, q1, pk.fut f1, fun S2 H2 h2 x cls d f2 m2 r2 q2 => lk S2 H2 h2 σ s x cls d (f1.trans f2) m2 (rs.fut (f1.trans f2)) r2 q2⟩⟩
abbrev W0 : WX := fun _ _ _ _ => False
theorem px0 {P : Program} {w : World} (hP : X.prog = P := by rfl) (hw : X.w = w := by rfl) : ∀ σ, PassesAt (L2.CX P w) X σ (WE W0 σ) := fun σ pins H s e s' I c => by
  obtain ⟨_, _, _, _, _, _, _, _, _, _, _, _, z⟩ := c
  exact z.elim
theorem pxT {P : Program} {w : World} (tk : Takes X W) (hP : X.prog = P := by rfl) (hw : X.w = w := by rfl) : ∀ σ, PassesAt (L2.CX P w) X σ (WE W σ) := by
  subst hP hw
  exact fun σ => passAt tk σ

/-! ### methods of built-in types -/
abbrev MT := T → List T → Hq → TK → Prop
def MP (K : PySem.W.Frag) (Ty : String) (r : V → List V → Hp → VK → Prop) (o : MT) : Prop := ∀ S H h v vs x xs Q Q', Sim K S H h → Rep K S H v x → RepL K S H vs xs → o x xs h Q → PK K S H Q Q' → tyV K Ty v H ∧ r v vs H Q'
def eBM (ok : T → Hq → Prop) (o : MT) (a : EM) (r : AM) : EM := fun s h Q E => a s h (fun x h1 => ok x h1 ∧ r s h1 (fun xs h2 => o x xs h2 Q) E) E
def TyOk (K : PySem.W.Frag) (Ty : String) (ok : T → Hq → Prop) : Prop := ∀ S H h v x, Sim K S H h → Rep K S H v x → ok x h → tyV K Ty v H
def MR (K : PySem.W.Frag) (r : V → List V → Hp → VK → Prop) (o : MT) : Prop := ∀ S H h v vs x xs Q Q', Sim K S H h → Rep K S H v x → RepL K S H vs xs → o x xs h Q → PK K S H Q Q' → r v vs H Q'
theorem lift_bm {Ty : String} {ok : T → Hq → Prop} {r : V → List V → Hp → VK → Prop} {o : MT} {a : EM} {b : AM} (t : TyOk K Ty ok) (c : MR K r o) : ∀ σ H Q, liftE K W (eBM ok o a b) σ H Q → tBM K Ty r (liftE K W a) (liftA K W b) σ H Q := fun σ H Q' ⟨S, h, s, Q, E, m, rs, lk, hm, pk⟩ =>
  ⟨S, h, s, _, E, m, rs, lk, hm, fun S1 H1 h1 v x f1 m1 r1 ⟨k1, q1⟩ => ⟨t S1 H1 h1 v x m1 r1 k1, S1, h1, s, _, E, m1, rs.fut f1, lk.fut f1, q1, fun S2 H2 h2 vs xs f2 m2 r2 q2 => c S2 H2 h2 v vs x xs Q Q' m2 (r1.fut f2) r2 q2 (pk.fut (f1.trans f2))⟩⟩
def eBM0 (ok : T → Hq → Prop) (o : MT) (a : EM) : EM := fun s h Q E => a s h (fun x h1 => ok x h1 ∧ o x [] h1 Q) E
theorem lift_bm0 {Ty : String} {ok : T → Hq → Prop} {r : V → List V → Hp → VK → Prop} {o : MT} {a : EM} (t : TyOk K Ty ok) (c : MR K r o) : ∀ σ H Q, liftE K W (eBM0 ok o a) σ H Q → tBM0 K Ty r (liftE K W a) σ H Q := fun σ H Q' ⟨S, h, s, Q, E, m, rs, lk, hm, pk⟩ =>
  ⟨S, h, s, _, E, m, rs, lk, hm, fun S1 H1 h1 v x f1 m1 r1 ⟨k1, q1⟩ => ⟨t S1 H1 h1 v x m1 r1 k1, c S1 H1 h1 v [] x [] Q Q' m1 r1 .nil q1 (pk.fut f1)⟩⟩
theorem j_bm {Ty : String} {name : Str} {id : String} {o : Expr} {e : Expr} {es : List Expr} {ok : T → Hq → Prop} {r : V → List V → Hp → VK → Prop} {q : MT} {a : EM} {b : AM} {apos cpos : Pos} (pa : PlainAttrs Ty) (slot : Slot Ty name id) (hty : typeOf (.builtin id) = pure (.type "method_descriptor")) (hm : MtR X id r) (t : TyOk X.K Ty ok) (c : MR X.K r q) (ho : JE X W o a) (ha : JA X W (e :: es) b)
    (hbase : attributeBase o name X.env (eval o X.env) = eval o X.env := by rfl)
    (hfew : ((backTo cpos (starEach (e :: es) X.env)).all (fun x => !x.1) && (backToKw cpos (keywordEach [] X.env)).all (fun x => x.1.isSome)
      && decide ((e :: es).length + ([] : List Keyword).length + (if ([] : List Keyword).isEmpty then 0 else 1) < 30)) = true := by rfl) (hline : (apos.endLine == cpos.line) = true := by rfl)
    (hs : starEach (e :: es) X.env = (false, eval e X.env) :: starEach es X.env := by rfl) (hplain : ((backTo cpos (starEach es X.env)).any fun x => x.fst) = false := by rfl) :
    JE X W (.Call (.Attribute o name apos) (e :: es) [] cpos) (eBM ok q a b) := PE.wk (pe_bm pa slot hty hm ho ha (hbase := hbase) (hfew := hfew) (hline := hline) (hs := hs) (hplain := hplain)) (lift_bm t c)
theorem j_bm0 {Ty : String} {name : Str} {id : String} {o : Expr} {ok : T → Hq → Prop} {r : V → List V → Hp → VK → Prop} {q : MT} {a : EM} {apos cpos : Pos} (pa : PlainAttrs Ty) (slot : Slot Ty name id) (hty : typeOf (.builtin id) = pure (.type "method_descriptor")) (hm : MtR X id r) (t : TyOk X.K Ty ok) (c : MR X.K r q) (ho : JE X W o a)
    (hbase : attributeBase o name X.env (eval o X.env) = eval o X.env := by rfl) (hline : (apos.endLine == cpos.line) = true := by rfl) :
    JE X W (.Call (.Attribute o name apos) [] [] cpos) (eBM0 ok q a) := PE.wk (pe_bm0 pa slot hty hm ho hbase hline) (lift_bm0 t c)
def isLs : T → Hq → Prop := fun x h => (lsOf h x).isSome = true
theorem ty_list : TyOk K "list" isLs := fun S H h v x m r k => by
  unfold isLs at k
  cases z : lsOf h x with
  | none => rw [z] at k; cases k
  | some ts =>
    obtain ⟨a, vs, rfl, ha, _⟩ := lsOf_ok m r z
    exact .inl ⟨rfl, vs, SqL.of ha⟩
def oApp : MT := fun x xs h Q => match x, xs with
  | .ref p, [y] => match h p with
    | some (.lst ts) => ts.length < lim ∧ Q .non (put h p (.lst (ts ++ [y])))
    | _ => False
  | _, _ => False
theorem ref_lst (m : Sim K S H h) {p : Addr} {ts : List T} (e : h p = some (.lst ts)) : ∃ vs, H p = some (.lst vs) ∧ RepL K S H vs ts := by
  obtain ⟨u, e1, vs, e2, r2⟩ := m.ob p _ e
  subst e2
  exact ⟨vs, e1, r2⟩
theorem c_app : MR K rAppend oApp := fun S H h v vs x xs Q Q' m r1 r2 q pk => by
  unfold oApp at q
  split at q
  · split at q
    · rename_i ts e
      cases r1
      cases r2 with
      | cons ry rn =>
        cases rn
        obtain ⟨vs, e1, r⟩ := ref_lst m e
        refine ⟨_, vs, _, rfl, rfl, e1, lim_lt (by rw [r.length]; exact Nat.le_of_lt q.1), ?_⟩
        exact pk S _ _ _ _ (fut_upd (m.nS' e)) (m.write (o' := .lst (ts ++ [_])) e ⟨_, rfl, r.append (.cons ry .nil)⟩) .non q.2
    · exact q.elim
  · exact q.elim
def oPop : MT := fun x xs h Q => match x, xs with
  | .ref p, [] => match h p with
    | some (.lst ts) => match ts[ts.length - 1]? with
      | some y => Q y (put h p (.lst ts.dropLast))
      | none => False
    | _ => False
  | _, _ => False
theorem c_pop : MR K rPop oPop := fun S H h v vs x xs Q Q' m r1 r2 q pk => by
  unfold oPop at q
  split at q
  · split at q
    · rename_i ts e
      cases r1
      cases r2
      obtain ⟨vs, e1, r⟩ := ref_lst m e
      split at q
      · rename_i y ey
        rw [← r.length] at ey
        obtain ⟨v, ev, rv⟩ := r.get ey
        refine ⟨_, vs, v, rfl, rfl, e1, ev, ?_⟩
        have f : Fut S H S (upd H _ (.lst vs.dropLast)) := fut_upd (m.nS' e)
        exact pk S _ _ _ _ f (m.write (o' := .lst ts.dropLast) e ⟨_, rfl, r.dropLast⟩) (rv.fut f) q
      · exact q.elim
    · exact q.elim
  · exact q.elim
def oExt : MT := fun x xs h Q => match x, xs with
  | .ref p, [y] => match h p, lsOf h y with
    | some (.lst ts), some us => ts.length + us.length ≤ lim ∧ Q .non (put h p (.lst (ts ++ us)))
    | _, _ => False
  | _, _ => False
theorem c_ext : MR K rExtend oExt := fun S H h v vs x xs Q Q' m r1 r2 q pk => by
  unfold oExt at q
  split at q
  · split at q
    · rename_i ts us e eu
      cases r1
      cases r2 with
      | cons ry rn =>
        cases rn
        obtain ⟨vs, e1, r⟩ := ref_lst m e
        obtain ⟨b, ws, rfl, hb, rb⟩ := lsOf_ok m ry eu
        refine ⟨_, b, vs, ws, rfl, rfl, e1, hb, lim_le (by rw [r.length, rb.length]; exact q.1), ?_⟩
        exact pk S _ _ _ _ (fut_upd (m.nS' e)) (m.write (o' := .lst (ts ++ us)) e ⟨_, rfl, r.append rb⟩) .non q.2
    · exact q.elim
  · exact q.elim
end
end TL

namespace TL
open PySem L2
section
variable {X : Cx} {W : WX} {K : PySem.W.Frag} {S : Fz} {H : Hp} {h : Hq}
/-! ### truth of a value -/
def tTru (a : EM) : TM := fun s h Q E => a s h (fun x h1 => match x with
  | .non => Q false h1
  | .bl b => Q b h1
  | .int i => Q (i != 0) h1
  | .str z => z.length ≤ lim ∧ Q ((z.length : Int) != 0) h1
  | .tup ts => Q (!ts.isEmpty) h1
  | x => match lsOf h1 x with
    | some ts => Q (!ts.isEmpty) h1
    | none => False) E
theorem RepL.isEmpty {vs : List V} {ts : List T} (r : RepL K S H vs ts) : vs.isEmpty = ts.isEmpty := by cases r <;> rfl
theorem jt_tru {a : Expr} {m : EM} (ha : JE X W a m) (he : ∀ whole, isTrue a X.env whole = (do let v ← whole; standAt a.pos; holding [v] (truthy v)) := by intro _; rfl) : JT X W a (tTru m) := PT.wk (pt_truth ha he) fun σ H Q' ⟨S, h, s, Q, E, m, rs, lk, hm, pk⟩ =>
  ⟨S, h, s, _, E, m, rs, lk, hm, fun S1 H1 h1 v x f1 m1 r1 q1 => by
    split at q1
    · cases r1; exact ⟨false, rfl, pk S1 H1 h1 _ f1 m1 q1⟩
    · cases r1; exact ⟨_, rfl, pk S1 H1 h1 _ f1 m1 q1⟩
    · cases r1; exact ⟨_, rfl, pk S1 H1 h1 _ f1 m1 q1⟩
    · cases r1; exact ⟨_, ⟨lim_le q1.1, rfl⟩, pk S1 H1 h1 _ f1 m1 q1.2⟩
    · cases r1 with
      | tup s hh r => exact ⟨_, .inr (.inl ⟨_, SqT.of hh, by rw [r.isEmpty]⟩), pk S1 H1 h1 _ f1 m1 q1⟩
      | tupK hh r => exact ⟨_, .inr (.inl ⟨_, .inr hh, by rw [r.isEmpty]⟩), pk S1 H1 h1 _ f1 m1 q1⟩
    · split at q1
      · rename_i ts e
        obtain ⟨a, vs, rfl, ha, r⟩ := lsOf_ok m1 r1 e
        exact ⟨_, .inl ⟨_, SqL.of ha, by rw [r.isEmpty]⟩, pk S1 H1 h1 _ f1 m1 q1⟩
      · exact q1.elim⟩

/-! ### statements -/
def sNext : SM := fun D s h => D.nx s h
def sSeq (a b : SM) : SM := fun D s h => a { D with nx := b D } s h
def sDrop (a : EM) : SM := fun D s h => a s h (fun _ h1 => D.nx s h1) D.ex
def sRet (a : EM) : SM := fun D s h => a s h D.rt D.ex
def sRetN : SM := fun D _ h => D.rt .non h
def sIf (c : TM) (a b : SM) : SM := fun D s h => c s h (fun d h1 => if d = true then a D s h1 else b D s h1) D.ex
def sBreak : SM := fun D s h => D.bk s h
def sCont : SM := fun D s h => D.ct s h
def sNever : SM := fun _ _ _ => False
theorem js_pass {pos : Pos} : JS X W (.Pass pos) sNext := PS.wk ps_pass fun D' σ H ⟨S, h, s, D, m, rs, lk, hm⟩ => lk.nx S H h σ s Fut.refl m rs hm
theorem js_break {pos : Pos} : JS X W (.Break pos) sBreak := PS.wk ps_break fun D' σ H ⟨S, h, s, D, m, rs, lk, hm⟩ => lk.bk S H h σ s Fut.refl m rs hm
theorem js_cont {pos : Pos} : JS X W (.Continue pos) sCont := PS.wk ps_continue fun D' σ H ⟨S, h, s, D, m, rs, lk, hm⟩ => lk.ct S H h σ s Fut.refl m rs hm
theorem js_never {st : Stmt} : JS X W st sNever := PS.wk ps_never fun D' σ H ⟨S, h, s, D, m, rs, lk, hm⟩ => hm
theorem jss_nil : JSs X W [] sNext := PSs.wk pss_nil fun D' σ H ⟨S, h, s, D, m, rs, lk, hm⟩ => lk.nx S H h σ s Fut.refl m rs hm
theorem jss_one {st : Stmt} {a : SM} (ha : JS X W st a) : JSs X W [st] a := pss_one ha
theorem jss_cons {st : Stmt} {rest : List Stmt} {a b : SM} (ha : JS X W st a) (hb : JSs X W rest b) : JSs X W (st :: rest) (sSeq a b) := PSs.wk (pss_cons ha hb) fun D' σ H ⟨S, h, s, D, m, rs, lk, hm⟩ =>
  ⟨S, h, s, { D with nx := b D }, m, rs, { nx := fun S1 H1 h1 σ1 s1 f1 m1 r1 q1 => ⟨S1, h1, s1, D, m1, r1, lk.fut f1, q1⟩, rt := lk.rt, bk := lk.bk, ct := lk.ct, ex := lk.ex }, hm⟩
theorem js_expr {e : Expr} {a : EM} {pos : Pos} (ha : JE X W e a) (hs : swapsWith e none pos.line X.env = pure false := by rfl) : JS X W (.Expr e pos) (sDrop a) := PS.wk (ps_expr ha hs) fun D' σ H ⟨S, h, s, D, m, rs, lk, hm⟩ =>
  ⟨S, h, s, _, D.ex, m, rs, lk.ex, hm, fun S1 H1 h1 v x f1 m1 r1 q1 => lk.nx S1 H1 h1 σ s f1 m1 (rs.fut f1) q1⟩
theorem js_doc {x j pos pos'} : JS X W (.Expr (.Constant (.str x) j pos) pos') sNext := PS.wk ps_doc fun D' σ H ⟨S, h, s, D, m, rs, lk, hm⟩ => lk.nx S H h σ s Fut.refl m rs hm
theorem js_ret {e : Expr} {a : EM} {pos : Pos} (ha : JE X W e a) : JS X W (.Return (some e) pos) (sRet a) := PS.wk (ps_ret ha) fun D' σ H ⟨S, h, s, D, m, rs, lk, hm⟩ => ⟨S, h, s, _, D.ex, m, rs, lk.ex, hm, lk.rt⟩
theorem js_retN {pos : Pos} : JS X W (.Return none pos) sRetN := PS.wk ps_retN fun D' σ H ⟨S, h, s, D, m, rs, lk, hm⟩ => lk.rt S H h _ _ Fut.refl m .non hm
theorem js_if {c : Expr} {as bs : List Stmt} {mc : TM} {a b : SM} {pos : Pos} (hc : JT X W c mc) (ha : JSs X W as a) (hb : JSs X W bs b) : JS X W (.If c as bs pos) (sIf mc a b) := PS.wk (ps_if hc ha hb) fun D' σ H ⟨S, h, s, D, m, rs, lk, hm⟩ =>
  ⟨S, h, s, _, D.ex, m, rs, lk.ex, hm, fun S1 H1 h1 d f1 m1 q1 => by
    cases d with
    | true => rw [if_pos rfl] at q1 ⊢; exact ⟨S1, h1, s, D, m1, rs.fut f1, lk.fut f1, q1⟩
    | false => rw [if_neg Bool.false_ne_true] at q1 ⊢; exact ⟨S1, h1, s, D, m1, rs.fut f1, lk.fut f1, q1⟩⟩

/-! ### targets -/
def gN (i : Nat) : GM := fun t s h Q _ => Q (s.set i (some t)) h
theorem jg_name {i : Nat} {x : Str} {pos : Pos} (hN : X.N.Nodup) (hi : X.N[i]? = some x) (hx : Loc X.env.scope x) (hf : X.fn x = true ∨ X.env.scope.names.lookup x = some .local := by first | exact .inl rfl | exact .inr rfl | assumption) : JG X W (.Name x pos) (gN i) := PG.wk (pg_name hN hi hx hf) fun v σ H Q' ⟨S, h, s, t, Q, E, m, rs, r, lk, hm, pk⟩ => pk S H h _ _ Fut.refl m (rs.set r i) hm
def gNil : GMs := fun ts s h Q _ => ts = [] ∧ Q s h
def gCons (a : GM) (b : GMs) : GMs := fun ts s h Q E => match ts with
  | t :: r => a t s h (fun s1 h1 => b r s1 h1 Q E) E
  | [] => False
theorem jgs_nil : JGs X W [] gNil := PGs.wk pgs_nil fun v σ H Q' ⟨S, h, s, t, Q, E, m, rs, r, lk, hm, pk⟩ => by
  obtain ⟨rfl, hm⟩ := hm
  cases r
  exact ⟨rfl, pk S H h _ _ Fut.refl m rs hm⟩
theorem jgs_cons {e : Expr} {es : List Expr} {a : GM} {b : GMs} (ha : JG X W e a) (hb : JGs X W es b) (hs : (assignEach (e :: es) X.env).map (·.2) = assign e X.env :: (assignEach es X.env).map (·.2) := by rfl) : JGs X W (e :: es) (gCons a b) := PGs.wk (pgs_cons ha hb hs) fun v σ H Q' ⟨S, h, s, t, Q, E, m, rs, r, lk, hm, pk⟩ => by
  cases r with
  | nil => exact hm.elim
  | cons r1 rn => exact ⟨_, _, rfl, S, h, s, _, _, E, m, rs, r1, lk, hm, fun S1 H1 h1 σ1 s1 f1 m1 q1 k1 => ⟨S1, h1, s1, _, Q, E, m1, q1, rn.fut f1, lk.fut f1, k1, pk.fut f1⟩⟩
def gTup (n : Nat) (b : GMs) : GM := fun t s h Q E => match t with
  | .tup ts => ts.length = n ∧ b ts s h Q E
  | _ => False
theorem jg_tup {es : List Expr} {k n : Nat} {b : GMs} {pos : Pos} (hc : X.calm = true) (hb : JGs X W es b) (hn : (assignEach es X.env).length = n := by rfl) (hst : (assignEach es X.env).findIdx? (·.1) = none := by rfl) : JG X W (.Tuple es k pos) (gTup n b) := PG.wk (pg_tup hc hb hn hst) fun v σ H Q' ⟨S, h, s, t, Q, E, m, rs, r, lk, hm, pk⟩ => by
  unfold gTup at hm
  split at hm
  · cases r with
    | tup s hh r => exact ⟨_, _, rfl, SqT.of hh, by rw [r.length]; exact hm.1, S, h, _, _, Q, E, m, rs, r, lk, hm.2, pk⟩
    | tupK hh r => exact ⟨_, _, rfl, .inr hh, by rw [r.length]; exact hm.1, S, h, _, _, Q, E, m, rs, r, lk, hm.2, pk⟩
  · exact hm.elim
def setT (o i v : T) (h : Hq) (Q : Hq → Prop) : Prop := match o, i with
  | .ref p, .int k => match h p with
    | some (.lst ts) => match ixN ts.length k with
      | some j => Q (put h p (.lst (ts.set j v)))
      | none => False
    | _ => False
  | _, _ => False
theorem setT_ok (m : Sim K S H h) {o i v : V} {to ti tv : T} {Q : Hq → Prop} {Q' : Hp → Prop} (ro : Rep K S H o to) (ri : Rep K S H i ti) (rv : Rep K S H v tv) (q : setT to ti tv h Q) (pk : ∀ H1 h1, Fut S H S H1 → Sim K S H1 h1 → Q h1 → Q' H1) : rSetL o i v H Q' := by
  unfold setT at q
  split at q
  · split at q
    · split at q
      · rename_i ts e _ j ej
        cases ro
        cases ri
        obtain ⟨vs, e1, r⟩ := ref_lst m e
        refine ⟨_, vs, _, j, rfl, rfl, e1, by rw [r.length]; exact ej, ?_⟩
        exact pk _ _ (fut_upd (m.nS' e)) (m.write (o' := .lst (ts.set j tv)) e ⟨_, rfl, r.set rv j⟩) q
      · exact q.elim
    · exact q.elim
  · exact q.elim
def gSub (a b : EM) : GM := fun v s h Q E => a s h (fun o h1 => b s h1 (fun i h2 => setT o i v h2 fun h3 => Q s h3) E) E
theorem jg_sub {o i : Expr} {a b : EM} {pos : Pos} (ho : JE X W o a) (hi : JE X W i b)
    (ha : ∀ v, assign (.Subscript o i pos) X.env v = (do
      let ov ← holding [v] (eval o X.env)
      let iv ← holding [v, ov] (eval i X.env)
      standAt pos
      holding [v, ov, iv] (setItem ov iv v)
      release [v, ov, iv] []) := by intro _; rfl) : JG X W (.Subscript o i pos) (gSub a b) := PG.wk (pg_sub ho hi set_list ha) fun v σ H Q' ⟨S, h, s, t, Q, E, m, rs, r, lk, hm, pk⟩ =>
  ⟨S, h, s, _, E, m, rs, lk, hm, fun S1 H1 h1 vo to f1 m1 r1 q1 => ⟨S1, h1, s, _, E, m1, rs.fut f1, lk.fut f1, q1, fun S2 H2 h2 vi ti f2 m2 r2 q2 =>
    setT_ok m2 (r1.fut f2) r2 (r.fut (f1.trans f2)) q2 fun H3 h3 f3 m3 q3 => pk S2 H3 h3 σ s ((f1.trans f2).trans f3) m3 (rs.fut ((f1.trans f2).trans f3)) q3⟩⟩
def sAsg (a : EM) (g : GM) : SM := fun D s h => a s h (fun x h1 => g x s h1 D.nx D.ex) D.ex
theorem js_asg {tg e : Expr} {a : EM} {g : GM} {pos : Pos} (ha : JE X W e a) (hg : JG X W tg g) (hs : swapsWithSole [tg] e pos.line X.env = pure false := by rfl) (hw : swappedStores [tg] e X.env = pure none := by rfl) (h1 : (assignEach [tg] X.env).map (·.2) = [assign tg X.env] := by rfl) : JS X W (.Assign [tg] e pos) (sAsg a g) := PS.wk (ps_asg ha hg hs hw h1) fun D' σ H ⟨S, h, s, D, m, rs, lk, hm⟩ =>
  ⟨S, h, s, _, D.ex, m, rs, lk.ex, hm, fun S1 H1 h1 v x f1 m1 r1 q1 => ⟨S1, h1, s, x, D.nx, D.ex, m1, rs.fut f1, r1, lk.ex.fut f1, q1, lk.nx.fut f1⟩⟩
theorem js_set {i : Nat} {x : Str} {e : Expr} {a : EM} {pos pos' : Pos} (hN : X.N.Nodup) (hi : X.N[i]? = some x) (hx : Loc X.env.scope x) (ha : JE X W e a) (hs : swapsWith e (some (.Name x pos')) pos.line X.env = pure false := by rfl) (hf : X.fn x = true ∨ X.env.scope.names.lookup x = some .local := by first | exact .inl rfl | exact .inr rfl | assumption) :
    JS X W (.Assign [.Name x pos'] e pos) (sAsg a (gN i)) := PS.wk (ps_set hN hi hx ha hs hf) fun D' σ H ⟨S, h, s, D, m, rs, lk, hm⟩ =>
  ⟨S, h, s, _, D.ex, m, rs, lk.ex, hm, fun S1 H1 h1 v x f1 m1 r1 q1 => lk.nx S1 H1 h1 _ _ f1 m1 ((rs.fut f1).set r1 i) q1⟩
def sPar (i j : Nat) (a : AM) : SM := fun D s h => a s h (fun ts h1 => match ts with
  | [x, y] => D.nx ((s.set i (some x)).set j (some y)) h1
  | _ => False) D.ex
theorem js_par {i j : Nat} {x y : Str} {a b : Expr} {m : AM} {px py pt : Pos} {kt k2 pt2} {pos : Pos} (hc : X.calm = true) (hN : X.N.Nodup) (hi : X.N[i]? = some x) (hj : X.N[j]? = some y) (hij : i ≠ j)
    (hx : X.env.scope.names.lookup x = some .local) (hy : X.env.scope.names.lookup y = some .local) (ha : JA X W [a, b] m)
    (hw : swappedStores [.Tuple [.Name x px, .Name y py] kt pt] (.Tuple [a, b] k2 pt2) X.env = pure (some [x, y]))
    (hs : swapsWithSole [.Tuple [.Name x px, .Name y py] kt pt] (.Tuple [a, b] k2 pt2) pos.line X.env = pure false := by rfl) :
    JS X W (.Assign [.Tuple [.Name x px, .Name y py] kt pt] (.Tuple [a, b] k2 pt2) pos) (sPar i j m) := PS.wk (ps_par hc hN hi hj hij hx hy ha hw hs) fun D' σ H ⟨S, h, s, D, m, rs, lk, hm⟩ =>
  ⟨S, h, s, _, D.ex, m, rs, lk.ex, hm, fun S1 H1 h1 vs ts f1 m1 r1 q1 => by
    split at q1
    · cases r1 with
      | cons ra rn => cases rn with
        | cons rb rn => cases rn; exact ⟨_, _, rfl, lk.nx S1 H1 h1 _ _ f1 m1 (((rs.fut f1).set ra i).set rb j) q1⟩
    · exact q1.elim⟩
def sAug (i : Nat) (a : EM) (o : R2T) : SM := fun D s h => match s[i]? with
  | some (some x) => a s h (fun y h1 => o x y h1 fun z h2 => D.nx (s.set i (some z)) h2) D.ex
  | _ => False
theorem js_aug {i : Nat} {x : Str} {e : Expr} {a : EM} {op : Operator} {ti : TIp} {o : R2T} {pos pos' : Pos} (hN : X.N.Nodup) (hi : X.N[i]? = some x) (hx : Loc X.env.scope x) (ha : JE X W e a) (ho : PIp X op ti) (p : OP X.K ti o) (hf : X.fn x = true ∨ X.env.scope.names.lookup x = some .local := by first | exact .inl rfl | exact .inr rfl | assumption) :
    JS X W (.AugAssign (.Name x pos') op e pos) (sAug i a o) := PS.wk (ps_aug hN hi hx ha ho hf) fun D' σ H ⟨S, h, s, D, m, rs, lk, hm⟩ => by
  unfold sAug at hm
  split at hm
  · rename_i t e
    obtain ⟨v, e1, r⟩ := rs.at_ i t e
    exact ⟨v, e1, S, h, s, _, D.ex, m, rs, lk.ex, hm, fun S1 H1 h1 w y f1 m1 r1 q1 => p S1 H1 h1 v w t y _ _ m1 (r.fut f1) r1 q1 fun S2 H2 h2 u z f2 m2 r2 q2 => lk.nx S2 H2 h2 _ _ (f1.trans f2) m2 ((rs.fut (f1.trans f2)).set r2 i) q2⟩
  · exact hm.elim
/-- xs[i] by values -/
theorem get_list : PGet X (rIxL X.K) := by
  intro pins s σ H o i ov iv Q I ro ri h
  obtain ⟨p, xs, k, z, rfl, rfl, hq, he, q⟩ := h
  cases ro
  obtain ⟨t, rfl⟩ := ri
  obtain ⟨its, r, pl, hz⟩ := I.list hq
  obtain ⟨j, h1, h2, h3, h4, h5⟩ := atI_get he
  obtain ⟨w, ew, rw'⟩ := r.get h2
  have hl := r.length
  have hn := line63
  have fin : EP X pins σ Q w s := ⟨z, H, I, rw', q⟩
  by_cases h0 : 0 ≤ k
  · have hj : k.toNat = j := by
      rw [PySem.seqIndex_of h0 h5] at h1
      exact Option.some.inj h1
    exact wpAny_getItem_list pl.isList h0 (by omega) (by rw [hj]; simpa using ew) fin
  · have hj : (k + (its.toArray.size : Int)).toNat = j := by
      rw [PySem.seqIndex_neg (by omega) h4] at h1
      rw [List.size_toArray, ← hl]
      exact Option.some.inj h1
    exact wpAny_getItem_list_neg pl.isList (by omega) (by rw [List.size_toArray] <;> omega) (by omega) (by rw [hj]; simpa using ew) fin
def oIxL : R2T := fun x y h Q => match y with
  | .int i => match lsOf h x with
    | some ts => atK ts i h Q
    | none => False
  | _ => False
theorem p_ixL : OP K (rIxL K) oIxL := fun S H h v w x y Q Q' m r1 r2 q pk => by
  unfold oIxL at q
  split at q
  · split at q
    · rename_i ts e
      cases r2
      obtain ⟨a, vs, rfl, ha, r⟩ := lsOf_ok m r1 e
      obtain ⟨u, e, q'⟩ := atK_ok m r q pk
      exact ⟨a, vs, _, u, rfl, rfl, SqL.of ha, e, q'⟩
    · exact q.elim
  · exact q.elim
def sAugS (a b e : EM) (o : R2T) : SM := fun D s h => a s h (fun x h1 => b s h1 (fun i h2 => oIxL x i h2 fun y h3 => e s h3 (fun z h4 => o y z h4 fun w h5 => setT x i w h5 fun h6 => D.nx s h6) D.ex) D.ex) D.ex
theorem js_augS {o i e : Expr} {a b c : EM} {op : Operator} {ti : TIp} {u : R2T} {pos tpos : Pos} (ho : JE X W o a) (hi : JE X W i b) (he : JE X W e c) (hp : PIp X op ti) (p : OP X.K ti u)
    (ha : ∀ ov iv new, augStore i ov iv new = (do holding [new, ov, iv] (setItem ov iv new); release [new, ov, iv] []; pure .next) := by intros; rfl) : JS X W (.AugAssign (.Subscript o i tpos) op e pos) (sAugS a b c u) := PS.wk (ps_augS ho hi get_list he hp set_list ha) fun D' σ H ⟨S, h, s, D, m, rs, lk, hm⟩ =>
  ⟨S, h, s, _, D.ex, m, rs, lk.ex, hm, fun S1 H1 h1 vo to f1 m1 r1 q1 => ⟨S1, h1, s, _, D.ex, m1, rs.fut f1, lk.ex.fut f1, q1, fun S2 H2 h2 vi ti f2 m2 r2 q2 =>
    p_ixL S2 H2 h2 vo vi to ti _ _ m2 (r1.fut f2) r2 q2 fun S3 H3 h3 vy y f3 m3 r3 q3 => ⟨S3, h3, s, _, D.ex, m3, rs.fut ((f1.trans f2).trans f3), lk.ex.fut ((f1.trans f2).trans f3), q3, fun S4 H4 h4 vz z f4 m4 r4 q4 =>
      p S4 H4 h4 vy vz y z _ _ m4 (r3.fut f4) r4 q4 fun S5 H5 h5 vw w f5 m5 r5 q5 => setT_ok m5 (r1.fut (((f2.trans f3).trans f4).trans f5)) (r2.fut ((f3.trans f4).trans f5)) r5 q5 fun H6 h6 f6 m6 q6 =>
        lk.nx S5 H6 h6 σ s (((((f1.trans f2).trans f3).trans f4).trans f5).trans f6) m6 (rs.fut (((((f1.trans f2).trans f3).trans f4).trans f5).trans f6)) q6⟩⟩⟩
def oAddI : R2T := oI fun i j => .int (i + j)
theorem p_iadd : OP K (ipI fun i j => i + j) oAddI := fun S H h v w x y Q Q' m r1 r2 q pk => (op_I (g := fun i j => .int (i + j)) (g' := fun i j => .int (i + j)) (fun _ _ _ _ => .int _)) S H h v w x y Q Q' m r1 r2 q pk
theorem p_isub : OP K (ipI fun i j => i - j) oSub := fun S H h v w x y Q Q' m r1 r2 q pk => (op_I (g := fun i j => .int (i - j)) (g' := fun i j => .int (i - j)) (fun _ _ _ _ => .int _)) S H h v w x y Q Q' m r1 r2 q pk

/-! ### while, for -/
def sWhile (c : TM) (b : SM) : SM := fun D s h => ∃ I : Nat → SK, (∃ n, I n s h) ∧ ∀ n s h, I n s h → c s h (fun d h1 => if d = true then b { D with nx := fun s' h' => ∃ n', n' < n ∧ I n' s' h', ct := fun s' h' => ∃ n', n' < n ∧ I n' s' h', bk := D.nx } s h1 else D.nx s h1) D.ex
theorem js_while {c : Expr} {body : List Stmt} {mc : TM} {b : SM} {pos : Pos} (hp : PassesOwn (model X.prog X.w) X.A X.env X.xe) (hc : JT X W c mc) (hb : JSs X W body b) : JS X W (.While c body [] pos) (sWhile mc b) := PS.wk (ps_while hp hc hb) fun D' σ H ⟨S, h, s, D, m, rs, lk, hm⟩ => by
  obtain ⟨I, ⟨n, i0⟩, step⟩ := hm
  refine ⟨fun n σ1 H1 => ∃ S1 h1 s1, Fut S H S1 H1 ∧ Sim X.K S1 H1 h1 ∧ RepS X.K S1 H1 σ1 s1 ∧ I n s1 h1, ⟨n, S, h, s, Fut.refl, m, rs, i0⟩, ?_⟩
  rintro n σ1 H1 ⟨S1, h1, s1, f1, m1, r1, i1⟩
  refine ⟨S1, h1, s1, _, D.ex, m1, r1, lk.ex.fut f1, step n s1 h1 i1, fun S2 H2 h2 d f2 m2 q2 => ?_⟩
  cases d with
  | true =>
    rw [if_pos rfl] at q2 ⊢
    have nxt : PSl X.K S2 H2 (fun s' h' => ∃ n', n' < n ∧ I n' s' h') (fun σ' H' => ∃ n', n' < n ∧ ∃ S1 h1 s1, Fut S H S1 H' ∧ Sim X.K S1 H' h1 ∧ RepS X.K S1 H' σ' s1 ∧ I n' s1 h1) := fun S3 H3 h3 σ3 s3 f3 m3 r3 ⟨n', hn, i3⟩ => ⟨n', hn, S3, h3, s3, (f1.trans f2).trans f3, m3, r3, i3⟩
    exact ⟨_, fun σ' H' q => q, S2, h2, s1, { D with nx := fun s' h' => ∃ n', n' < n ∧ I n' s' h', ct := fun s' h' => ∃ n', n' < n ∧ I n' s' h', bk := D.nx }, m2, r1.fut f2, { nx := nxt, rt := lk.rt.fut (f1.trans f2), bk := lk.nx.fut (f1.trans f2), ct := nxt, ex := lk.ex.fut (f1.trans f2) }, q2⟩
  | false =>
    rw [if_neg Bool.false_ne_true] at q2 ⊢
    exact lk.nx S2 H2 h2 σ1 s1 (f1.trans f2) m2 (r1.fut f2) q2
def ForK (ts : List T) (stay : Hq → Prop) (g : GM) (b : SM) (D : En) (s : Sl) (h1 : Hq) : Prop := ∃ I : Nat → SK, I 0 s h1 ∧ ∀ i s h, i ≤ ts.length → I i s h → stay h ∧ match ts[i]? with
  | none => D.nx s h
  | some t => g t s h (fun s2 h2 => b { D with nx := I (i + 1), ct := I (i + 1), bk := D.nx } s2 h2) D.ex
def sFor (src : IM) (g : GM) (b : SM) : SM := fun D s h => src s h (fun ts stay h1 => ForK ts stay g b D s h1) D.ex
theorem js_for {tg iter : Expr} {body : List Stmt} {src : IM} {g : GM} {b : SM} {pos : Pos} (hp : PassesOwn (model X.prog X.w) X.A X.env X.xe) (hc : X.calm = true) (hi : JI X W tg iter src) (hg : JG X W tg g) (hb : JSs X W body b) (hs : ∀ x, foldedSetIterable iter X.env x = pure x := by intro _; rfl) :
    JS X W (.For tg iter body [] pos) (sFor src g b) := PS.wk (ps_for hp hc hi hg hb hs) fun D' σ H ⟨S, h, s, D, m, rs, lk, hm⟩ => by
  refine ⟨S, h, s, _, D.ex, m, rs, lk.ex, hm, fun S1 H1 h1 J ts stay f1 m1 it q => ?_⟩
  obtain ⟨I, i0, step⟩ := q
  refine ⟨fun i n σ2 H2 => n = ts.length - i ∧ i ≤ ts.length ∧ ∃ S2 h2 s2, Fut S1 H1 S2 H2 ∧ Sim X.K S2 H2 h2 ∧ RepS X.K S2 H2 σ2 s2 ∧ I i s2 h2, ⟨ts.length, by simp, Nat.zero_le _, S1, h1, s, Fut.refl, m1, rs.fut f1, i0⟩, ?_⟩
  rintro i n σ2 H2 ⟨en, hi, S2, h2, s2, f2, m2, r2, i2⟩
  obtain ⟨st, q2⟩ := step i s2 h2 hi i2
  obtain ⟨go, stop⟩ := it S2 H2 h2 f2.fu m2 st
  cases e : ts[i]? with
  | none =>
    rw [e] at q2
    have hl : i = ts.length := Nat.le_antisymm hi (List.getElem?_eq_none_iff.mp e)
    exact .inl ⟨by rw [hl]; exact stop, lk.nx S2 H2 h2 σ2 s2 (f1.trans f2) m2 r2 q2⟩
  | some t =>
    rw [e] at q2
    have hl : i < ts.length := (List.getElem?_eq_some_iff.mp e).1
    obtain ⟨g1, g2⟩ := go i t e
    refine .inr ⟨g1, fun σ' H' => ∃ S3 h3 s3, Fut S1 H1 S3 H' ∧ Sim X.K S3 H' h3 ∧ RepS X.K S3 H' σ' s3 ∧ I (i + 1) s3 h3, fun σ' H' q => ⟨ts.length - (i + 1), by omega, rfl, hl, q⟩, fun x H3 y => ?_⟩
    obtain ⟨S3, f3, m3, r3⟩ := g2 x H3 y
    refine ⟨S3, h2, s2, t, _, D.ex, m3, r2.fut f3, r3, lk.ex.fut ((f1.trans f2).trans f3), q2, fun S4 H4 h4 σ4 s4 f4 m4 r4 q4 => ?_⟩
    have nxt : PSl X.K S4 H4 (I (i + 1)) (fun σ' H' => ∃ S3 h3 s3, Fut S1 H1 S3 H' ∧ Sim X.K S3 H' h3 ∧ RepS X.K S3 H' σ' s3 ∧ I (i + 1) s3 h3) := fun S5 H5 h5 σ5 s5 f5 m5 r5 q5 => ⟨S5, h5, s5, ((f2.trans f3).trans f4).trans f5, m5, r5, q5⟩
    have fa := ((f1.trans f2).trans f3).trans f4
    exact ⟨S4, h4, s4, { D with nx := I (i + 1), ct := I (i + 1), bk := D.nx }, m4, r4, { nx := nxt, rt := lk.rt.fut fa, bk := lk.nx.fut fa, ct := nxt, ex := lk.ex.fut fa }, q4⟩

/-! ### what is walked -/
def iSeq (a : EM) : IM := fun s h Q E => a s h (fun x h1 => match x with
  | .lst ts => Q ts (fun _ => True) h1
  | .scr ns => Q (ns.map T.int) (fun _ => True) h1
  | .ref p => match h1 p with
    | some (.lst ts) => Q ts (fun h2 => h2 p = some (.lst ts)) h1
    | _ => False
  | _ => False) E
theorem seq_it {a : Addr} {vs : List V} {ts : List T} {stay : Hq → Prop} (hl : ∀ S1 H1 h1, Fu S H S1 H1 → Sim K S1 H1 h1 → stay h1 → SqL K H1 a vs) (r : ∀ S1 H1 h1, Fu S H S1 H1 → Sim K S1 H1 h1 → stay h1 → RepL K S1 H1 vs ts) : ItRep K S H (Itl K a) ts stay := fun S1 H1 h1 f1 m1 st => by
  have q := hl S1 H1 h1 f1 m1 st
  have r1 := r S1 H1 h1 f1 m1 st
  refine ⟨fun i t e => ?_, ⟨vs, q, by rw [r1.length]; exact Nat.le_refl _⟩⟩
  obtain ⟨v, ev, rv⟩ := r1.get e
  refine ⟨⟨vs, v, q, ev⟩, fun x H2 y => ?_⟩
  obtain ⟨rfl, y⟩ := y
  have ex : x = v := Option.some.inj ((y vs q).symm.trans ev)
  subst ex
  exact ⟨S1, Fut.refl, m1, rv⟩
theorem ji_seq {tg e : Expr} {a : EM} (ha : JE X W e a) : JI X W tg e (iSeq a) := PI.wk (pi_list ha) fun σ H R ⟨S, h, s, Q, E, m, rs, lk, hm, pk⟩ =>
  ⟨S, h, s, _, E, m, rs, lk, hm, fun S1 H1 h1 v x f1 m1 r1 q1 => by
    split at q1
    · cases r1 with
      | lst s hh r => exact ⟨_, rfl, ⟨_, SqL.of hh⟩, pk S1 H1 h1 _ _ _ f1 m1 (seq_it (fun S2 H2 h2 f2 m2 _ => SqL.of ((f2.kp _ s).trans hh)) fun S2 H2 h2 f2 m2 _ => r.fu f2) q1⟩
    · obtain ⟨a, rfl, hh, hf⟩ := r1.scr_sq
      exact ⟨_, rfl, ⟨_, hh⟩, pk S1 H1 h1 _ _ _ f1 m1 (seq_it (fun S2 H2 h2 f2 m2 _ => hf S2 H2 f2) fun S2 H2 h2 f2 m2 _ => RepL.of_ints _) q1⟩
    · split at q1
      · rename_i p ts e
        cases r1
        obtain ⟨vs, e1, r⟩ := ref_lst m1 e
        refine ⟨_, rfl, ⟨_, SqL.of e1⟩, pk S1 H1 h1 _ ts _ f1 m1 ?_ q1⟩
        intro S2 H2 h2 f2 m2 st
        obtain ⟨ws, e2, r2⟩ := ref_lst m2 st
        refine ⟨fun i t e => ?_, ⟨ws, SqL.of e2, by rw [r2.length]; exact Nat.le_refl _⟩⟩
        obtain ⟨v, ev, rv⟩ := r2.get e
        refine ⟨⟨ws, v, SqL.of e2, ev⟩, fun x H3 y => ?_⟩
        obtain ⟨rfl, y⟩ := y
        have ex : x = v := Option.some.inj ((y ws (SqL.of e2)).symm.trans ev)
        subst ex
        exact ⟨S2, Fut.refl, m2, rv⟩
      · exact q1.elim
    · exact q1.elim⟩
def rng (lo : Int) (n : Nat) : List T := (List.range n).map fun (i : Nat) => T.int (lo + i)
theorem rng_it {lo : Int} {n : Nat} : ItRep K S H (Itr lo n) (rng lo n) (fun _ => True) := fun S1 H1 h1 f1 m1 st => by
  refine ⟨fun i t e => ?_, by show n ≤ (rng lo n).length; unfold rng; simp⟩
  have hi : i < n := by
    have := (List.getElem?_eq_some_iff.mp e).1
    unfold rng at this
    simpa using this
  have et : t = T.int (lo + i) := by
    unfold rng at e
    rw [List.getElem?_map, List.getElem?_range hi] at e
    exact (Option.some.inj e).symm
  subst et
  refine ⟨hi, fun x H2 y => ?_⟩
  obtain ⟨rfl, rfl⟩ := y
  exact ⟨S1, Fut.refl, m1, .int _⟩
def iRange1 (a : AM) : IM := fun s h Q E => a s h (fun ts h1 => match ts with
  | [.int j] => -1000000 ≤ j ∧ j ≤ 1000000 ∧ Q (rng 0 j.toNat) (fun _ => True) h1
  | _ => False) E
def iRange2 (a : AM) : IM := fun s h Q E => a s h (fun ts h1 => match ts with
  | [.int i, .int j] => (-(2 ^ 62) ≤ i ∧ i < 2 ^ 62 ∧ -(2 ^ 62) ≤ j ∧ j < 2 ^ 62) ∧ Q (rng i (j - i).toNat) (fun _ => True) h1
  | _ => False) E
theorem ji_range1 {tg e : Expr} {a : AM} {p pos : Pos} (hg : Gl X "range") (hm : X.mg "range" = none) (ha : JA X W [e] a) (hs : starEach [e] X.env = [(false, eval e X.env)] := by rfl) : JI X W tg (.Call (.Name "range" p) [e] [] pos) (iRange1 a) := PI.wk (pi_range1 hg hm ha hs) fun σ H R ⟨S, h, s, Q, E, m, rs, lk, hm, pk⟩ =>
  ⟨S, h, s, _, E, m, rs, lk, hm, fun S1 H1 h1 vs ts f1 m1 r1 q1 => by
    split at q1
    · cases r1 with
      | cons ra rn =>
        cases rn; cases ra
        rename_i j
        obtain ⟨a1, a2, q1⟩ := q1
        exact ⟨j, rfl, by omega, by omega, pk S1 H1 h1 _ _ _ f1 m1 rng_it q1⟩
    · exact q1.elim⟩
theorem ji_range2 {tg e e2 : Expr} {a : AM} {p pos : Pos} (hg : Gl X "range") (hm : X.mg "range" = none) (ha : JA X W [e, e2] a) (hs : starEach [e, e2] X.env = [(false, eval e X.env), (false, eval e2 X.env)] := by rfl) (hs2 : starEach [e2] X.env = [(false, eval e2 X.env)] := by rfl) :
    JI X W tg (.Call (.Name "range" p) [e, e2] [] pos) (iRange2 a) := PI.wk (pi_range2 hg hm ha hs hs2) fun σ H R ⟨S, h, s, Q, E, m, rs, lk, hm, pk⟩ =>
  ⟨S, h, s, _, E, m, rs, lk, hm, fun S1 H1 h1 vs ts f1 m1 r1 q1 => by
    split at q1
    · cases r1 with
      | cons ra rn => cases rn with
        | cons rb rn =>
          cases rn; cases ra; cases rb
          exact ⟨_, _, rfl, q1.1, pk S1 H1 h1 _ _ _ f1 m1 rng_it q1.2⟩
    · exact q1.elim⟩
def enumT (ts : List T) : List T := ts.mapIdx fun (i : Nat) t => T.tup [T.int i, t]
def iEnum (a : AM) : IM := fun s h Q E => a s h (fun xs h1 => match xs with
  | [.lst ts] => Q (enumT ts) (fun _ => True) h1
  | [.ref p] => match h1 p with
    | some (.lst ts) => Q (enumT ts) (fun h2 => h2 p = some (.lst ts)) h1
    | _ => False
  | _ => False) E
theorem enum_it {a : Addr} {ts : List T} {stay : Hq → Prop} (hl : ∀ S1 H1 h1, Fu S H S1 H1 → Sim K S1 H1 h1 → stay h1 → ∃ vs, SqL K H1 a vs ∧ RepL K S1 H1 vs ts) : ItRep K S H (Ite K a) (enumT ts) stay := fun S1 H1 h1 f1 m1 st => by
  obtain ⟨vs, q, r1⟩ := hl S1 H1 h1 f1 m1 st
  refine ⟨fun i t e => ?_, ⟨vs, q, by rw [r1.length]; unfold enumT; simp⟩⟩
  unfold enumT at e
  rw [List.getElem?_mapIdx] at e
  cases z : ts[i]? with
  | none => rw [z] at e; cases e
  | some y =>
    rw [z] at e
    cases e
    obtain ⟨v, ev, rv⟩ := r1.get z
    refine ⟨⟨vs, v, q, ev⟩, fun x H2 y => ?_⟩
    obtain ⟨p, w, rfl, np, rfl, yy⟩ := y
    have ex : w = v := Option.some.inj ((yy vs q).symm.trans ev)
    subst ex
    obtain ⟨m2, f2⟩ := m1.frozen (u := .tup [.int (i : Nat), w]) np
    exact ⟨_, f2, m2, .tup (.inr rfl) upd_same (.cons (.int _) (.cons (rv.fut f2) .nil))⟩
theorem ji_enum {elts : List Expr} {kk : Nat} {tpos : Pos} {e : Expr} {a : AM} {p pos : Pos} (hg : Gl X "enumerate") (hm : X.mg "enumerate" = none) (ha : JA X W [e] a) (hs : starEach [e] X.env = [(false, eval e X.env)] := by rfl) : JI X W (.Tuple elts kk tpos) (.Call (.Name "enumerate" p) [e] [] pos) (iEnum a) := PI.wk (pi_enum hg hm ha hs) fun σ H R ⟨S, h, s, Q, E, m, rs, lk, hm, pk⟩ =>
  ⟨S, h, s, _, E, m, rs, lk, hm, fun S1 H1 h1 vs ts f1 m1 r1 q1 => by
    split at q1
    · cases r1 with
      | cons ra rn =>
        cases rn
        cases ra with
        | lst s hh r => exact ⟨_, _, rfl, SqL.of hh, pk S1 H1 h1 _ _ _ f1 m1 (enum_it fun S2 H2 h2 f2 m2 _ => ⟨_, SqL.of ((f2.kp _ s).trans hh), r.fu f2⟩) q1⟩
    · cases r1 with
      | cons ra rn =>
        cases rn
        split at q1
        · rename_i ts e
          cases ra
          obtain ⟨vs, e1, r⟩ := ref_lst m1 e
          refine ⟨_, _, rfl, SqL.of e1, pk S1 H1 h1 _ _ _ f1 m1 (enum_it fun S2 H2 h2 f2 m2 st => ?_) q1⟩
          obtain ⟨ws, e2, r2⟩ := ref_lst m2 st
          exact ⟨ws, SqL.of e2, r2⟩
        · exact q1.elim
    · exact q1.elim⟩
end
end TL

namespace TL
open PySem L2
theorem ne_mem {α : Type} {i k : α} {own : List α} (hi : i ∈ own) (hk : k ∉ own) : i ≠ k := fun z => hk (z ▸ hi)
section
variable {X : Cx} {W : WX} {K : PySem.W.Frag} {S : Fz} {H : Hp} {h : Hq}
/-! ### comprehensions -/
def wipeT (s : Sl) : List Nat → Sl
  | [] => s
  | v :: vs => (wipeT s vs).set v none
theorem wipeT_some {s : Sl} {i : Nat} {t : T} : ∀ {vs : List Nat}, (wipeT s vs)[i]? = some (some t) → s[i]? = some (some t) ∧ i ∉ vs
  | [], h => ⟨h, by simp⟩
  | v :: vs, h => by
    unfold wipeT at h
    by_cases c : v = i
    · subst c
      rw [List.getElem?_set] at h
      simp only [if_true] at h
      split at h
      · cases h
      · cases h
    · rw [List.getElem?_set_ne c] at h
      obtain ⟨a, b⟩ := wipeT_some h
      exact ⟨a, by simp only [List.mem_cons, not_or]; exact ⟨fun z => c z.symm, b⟩⟩
theorem wipeT_len (s : Sl) : ∀ vs : List Nat, (wipeT s vs).length = s.length
  | [] => rfl
  | v :: vs => by unfold wipeT; rw [List.length_set, wipeT_len s vs]
theorem wipe_get (σ : L2.St) {k : Nat} : ∀ {vs : List Nat}, k ∉ vs → (wipe σ vs)[k]? = σ[k]?
  | [], _ => rfl
  | v :: vs, h => by
    unfold wipe
    simp only [List.mem_cons, not_or] at h
    rw [List.getElem?_set_ne (fun z => h.1 z.symm)]
    exact wipe_get σ h.2
theorem wipe_in (σ : L2.St) {k : Nat} : ∀ {vs : List Nat}, k ∈ vs → k < σ.length → (wipe σ vs)[k]? = some none
  | v :: vs, h, hl => by
    unfold wipe
    by_cases c : v = k
    · subst c
      rw [List.getElem?_set_self (by rw [wipe_length]; exact hl)]
    · rw [List.getElem?_set_ne c]
      rcases List.mem_cons.mp h with z | z
      · exact absurd z.symm c
      · exact wipe_in σ z hl
/-- own slots do not matter -/
theorem wipe_same {σ σ2 : L2.St} {vs : List Nat} (hl : σ2.length = σ.length) (e : ∀ k, k ∉ vs → σ2[k]? = σ[k]?) : wipe σ2 vs = wipe σ vs := by
  apply List.ext_getElem?
  intro k
  by_cases c : k ∈ vs
  · by_cases l : k < σ.length
    · rw [wipe_in σ c l, wipe_in σ2 c (by rw [hl]; exact l)]
    · rw [List.getElem?_eq_none_iff.mpr (by rw [wipe_length]; omega), List.getElem?_eq_none_iff.mpr (by rw [wipe_length]; omega)]
  · rw [wipe_get σ c, wipe_get σ2 c, e k c]
theorem RepS.wipe {σ : L2.St} {s : Sl} (r : RepS K S H σ s) (vs : List Nat) : RepS K S H (wipe σ vs) (wipeT s vs) := ⟨by rw [wipe_length, wipeT_len, r.len], fun i t e => by
  obtain ⟨a, b⟩ := wipeT_some e
  obtain ⟨v, h1, h2⟩ := r.at_ i t a
  exact ⟨v, by rw [wipe_get σ b]; exact h1, h2⟩⟩
/-- a target of names alone, its slots among own -/
def CTg (K : PySem.W.Frag) (g' : TG) (g : T → Sl → Option Sl) (own : List Nat) : Prop := ∀ S H h v t σ s s2 Q', Sim K S H h → RepS K S H σ s → Rep K S H v t → g t s = some s2 →
  (∀ σ2, RepS K S H σ2 s2 → wipe σ2 own = wipe σ own → Q' σ2 H) → g' v (wipe σ own) H Q'
def cN (i : Nat) (own : List Nat) : T → Sl → Option Sl := fun t s => some ((wipeT s own).set i (some t))
theorem ct_name {i : Nat} {own : List Nat} (hi : i ∈ own) : CTg K (L2.gName i) (cN i own) own := fun S H h v t σ s s2 Q' m rs r e q => by
  cases e
  refine q _ ((rs.wipe own).set r i) ?_
  refine wipe_same (by rw [List.length_set, wipe_length]) fun k hk => ?_
  rw [List.getElem?_set_ne (ne_mem hi hk), wipe_get σ hk]
def cN2 (i j : Nat) (own : List Nat) : T → Sl → Option Sl := fun t s => match t with
  | .tup [a, b] => some (((wipeT s own).set i (some a)).set j (some b))
  | _ => none
theorem ct_name2 {i j : Nat} {own : List Nat} (hi : i ∈ own) (hj : j ∈ own) : CTg K (L2.gTup K 2 (L2.gCons (L2.gName i) (L2.gCons (L2.gName j) L2.gNil))) (cN2 i j own) own := fun S H h v t σ s s2 Q' m rs r e q => by
  unfold cN2 at e
  split at e
  · cases e
    have go : ∀ {a : Addr} {vs : List V} {x y : T}, SqT K H a vs → RepL K S H vs [x, y] → (∀ σ2, RepS K S H σ2 (((wipeT s own).set i (some x)).set j (some y)) → wipe σ2 own = wipe σ own → Q' σ2 H) → L2.gTup K 2 (L2.gCons (L2.gName i) (L2.gCons (L2.gName j) L2.gNil)) (.ref a) (wipe σ own) H Q' := fun {a vs x y} hq rl q => by
      cases rl with
      | cons ra rl => cases rl with
        | cons rb rl =>
          cases rl
          refine ⟨a, _, rfl, hq, rfl, _, _, rfl, _, _, rfl, rfl, q _ (((rs.wipe own).set ra i).set rb j) ?_⟩
          refine wipe_same (by rw [List.length_set, List.length_set, wipe_length]) fun k hk => ?_
          rw [List.getElem?_set_ne (ne_mem hj hk), List.getElem?_set_ne (ne_mem hi hk), wipe_get σ hk]
    cases r with
    | tup s hh r => exact go (SqT.of hh) r q
    | tupK hh r => exact go (.inr hh) r q
  · cases e
theorem Sim.follow (m : Sim K S H h) {p : Addr} {u : HO} {o : O} (e : h p = none) (n : ¬ S.has p) (hp : H p = some u) (r : RepO K S H u o) : Sim K S H (put h p o) where
  fr := fun a s => by rw [put_ne (neS s n)]; exact m.fr a s
  al := m.al
  dj := m.dj
  ob := fun a o' q => by
    by_cases c : a = p
    · subst c; rw [put_same] at q; cases q; exact ⟨u, hp, r⟩
    · rw [put_ne c] at q; exact m.ob a o' q
abbrev E0 : EX := fun _ _ _ => False
theorem lk0 : LkX K W S H E0 := fun _ _ _ _ _ _ _ _ _ _ _ _ z => z.elim
def LcK (fl : Bool) (ts : List T) (stay : Hq → Prop) (g : T → Sl → Option Sl) (tt : TM) (el : EM) (s : Sl) (h1 : Hq) (Q : TK) : Prop := ∃ I : Nat → List T → Hq → Prop, I 0 [] h1 ∧ ∀ i acc h, i ≤ ts.length → I i acc h → stay h ∧ match ts[i]? with
  | none => mk fl acc h Q
  | some t => acc.length < lim ∧ match g t s with
    | some s2 => tt s2 h (fun b h3 => if b = true then el s2 h3 (fun y h4 => I (i + 1) (acc ++ [y]) h4) E0 else I (i + 1) acc h3) E0
    | none => False
def eLc (fl : Bool) (src : IM) (g : T → Sl → Option Sl) (tt : TM) (el : EM) : EM := fun s h Q E => src s h (fun ts stay h1 => LcK fl ts stay g tt el s h1 Q) E
theorem lift_lc {fl : Bool} {src : IM} {g : T → Sl → Option Sl} {g' : TG} {tt : TM} {el : EM} {own : List Nat} (ct : CTg K g' g own) : ∀ σ H Q, liftE K W (eLc fl src g tt el) σ H Q → tLc (liftI K W src) g' (liftT K W0 tt) (liftE K W0 el) own σ H Q := fun σ H Q' ⟨S, h, s, Q, E, m, rs, lk, hm, pk⟩ => by
  refine ⟨S, h, s, _, E, m, rs, lk, hm, fun S1 H1 h1 J ts stay f1 m1 it q => ?_⟩
  obtain ⟨I, i0, step⟩ := q
  intro D nD
  have nS1 : ¬ S1.has D := m1.nS nD
  let Wd : Nat → Hp → Prop := fun i H2 => ∃ S2 h2 vs acc, Fut S1 H1 S2 H2 ∧ Sim K S2 H2 h2 ∧ H2 D = some (.lst vs) ∧ RepL K S2 H2 vs acc ∧ ¬ S2.has D ∧ h2 D = none ∧ I i acc h2
  refine ⟨fun i n H2 => n = ts.length - i ∧ i ≤ ts.length ∧ Wd i H2, ⟨ts.length, by simp, Nat.zero_le _, S1, h1, [], [], fut_upd nS1, m1.side nD, upd_same, .nil, nS1, m1.free nD, i0⟩, ?_⟩
  rintro i n H2 ⟨en, hi, S2, h2, vs, acc, f2, m2, hD, rD, nS2, nh2, i2⟩
  obtain ⟨st, q2⟩ := step i acc h2 hi i2
  have m2' : Sim K (TL.prot S2 D) H2 h2 := m2.prot nh2 (by rw [hD]; exact fun z => nomatch z) fun z => nS2 (.inl z)
  obtain ⟨go, stop⟩ := it (TL.prot S2 D) H2 h2 ⟨f2.sub, fun a z => f2.kp a (.inl z)⟩ m2' st
  cases e : ts[i]? with
  | none =>
    rw [e] at q2
    have hl : i = ts.length := Nat.le_antisymm hi (List.getElem?_eq_none_iff.mp e)
    refine .inl ⟨by rw [hl]; exact stop, ?_⟩
    cases fl with
    | true =>
      rw [mk_true] at q2
      have f3 : Fut S2 H2 (TL.plus S2 D) H2 := fut_plus Fut.refl
      exact pk _ H2 h2 _ _ ((f1.trans f2).trans f3) (m2.plus nh2 (by rw [hD]; exact fun z => nomatch z) fun z => nS2 (.inr z)) (.lst (.inr rfl) hD (rD.fut f3)) q2
    | false =>
      rw [mk_false] at q2
      exact pk S2 H2 _ _ _ (f1.trans f2) (m2.follow (o := .lst acc) nh2 nS2 hD ⟨vs, rfl, rD⟩) (.ref D) (q2 D nh2)
  | some t =>
    rw [e] at q2
    obtain ⟨la, q2⟩ := q2
    have hl : i < ts.length := (List.getElem?_eq_some_iff.mp e).1
    obtain ⟨g1, g2⟩ := go i t e
    refine .inr ⟨g1, Wd (i + 1), fun H' w => ⟨ts.length - (i + 1), by omega, rfl, hl, w⟩, fun x H3 y => ?_⟩
    obtain ⟨S3, f3, m3, r3⟩ := g2 x H3 y
    have u2 : Fu S H (TL.prot S2 D) H2 := ⟨fun a z => f2.sub a (f1.sub a z), fun a z => (f1.trans f2).kp a (.inl z)⟩
    have rs3 : RepS K S3 H3 σ s := rs.fu (u2.trans f3.fu)
    split at q2
    · rename_i s2 eg
      refine ct S3 H3 h2 x t σ s s2 _ m3 rs3 r3 eg fun σ2 r2 ew => ⟨ew, ?_⟩
      refine ⟨S3, h2, s2, _, E0, m3, r2, lk0, q2, fun S4 H4 h4 b f4 m4 q4 => ?_⟩
      -- the world behind a turn
      have back : ∀ {S5 : Fz} {H5 : Hp} {h5 : Hq} {ws : List V} {acc' : List T}, Fut (TL.prot S2 D) H2 S5 H5 → Sim K S5 H5 h5 → RepL K S5 H5 ws acc' → I (i + 1) acc' h5 → Wd (i + 1) (upd H5 D (.lst ws)) := fun {S5 H5 h5 ws acc'} f5 m5 r5 q5 => by
        have pD : S5.p D := by rw [f5.pe]; exact .inr rfl
        have nD5 : ¬ S5.s D := fun z => m5.dj D z pD
        have n6 : ¬ (TL.unp S2 S5).has D := fun z => z.elim nD5 fun z => nS2 (.inr z)
        refine ⟨TL.unp S2 S5, h5, ws, acc', ⟨fun a z => f5.sub a (f2.sub a z), fun a z => ?_, f2.pe⟩, (m5.unp f5.pe).side' (m5.fr D (.inr pD)) n6, upd_same, ?_, n6, m5.fr D (.inr pD), q5⟩
        · rw [upd_ne (neS z nS1), f5.kp a (z.elim (fun w => .inl (f2.sub a w)) fun w => .inr (.inl (by rw [f2.pe]; exact w))), f2.kp a z]
        · exact r5.fu (S := S5) (S1 := TL.unp S2 S5) ⟨fun a z => z, fun a z => upd_ne (show a ≠ D from fun w => nD5 (by rw [← w]; exact z))⟩
      have old : ∀ {S5 : Fz} {H5 : Hp}, Fut (TL.prot S2 D) H2 S5 H5 → H5 D = some (.lst vs) ∧ RepL K S5 H5 vs acc := fun {S5 H5} f5 => ⟨(f5.kp D (.inr (.inr rfl))).trans hD, RepL.fu (S := S2) ⟨f5.sub, fun a z => f5.kp a (.inl z)⟩ rD⟩
      cases b with
      | true =>
        rw [if_pos rfl] at q4
        refine iteT ?_
        refine ⟨S4, h4, s2, _, E0, m4, r2.fut f4, lk0, q4, fun S5 H5 h5 v y f5 m5 r5 q5 => ?_⟩
        have f25 := (f3.trans f4).trans f5
        obtain ⟨hD5, rD5⟩ := old f25
        exact ⟨vs, hD5, lim_lt (by rw [rD.length]; exact Nat.le_of_lt la), back f25 m5 (rD5.append (.cons r5 .nil)) q5⟩
      | false =>
        rw [if_neg Bool.false_ne_true] at q4
        refine iteF ?_
        have f24 := f3.trans f4
        obtain ⟨hD4, rD4⟩ := old f24
        have w := back f24 m4 rD4 q4
        have eu : upd H4 D (.lst vs) = H4 := by
          funext a
          unfold upd
          split
          · rename_i z; rw [z, hD4]
          · rfl
        rw [eu] at w
        exact w
    · exact q2.elim
theorem j_lc (fl : Bool) {elt tg iter : Expr} {ifs : List Expr} {scope : Scope} {own : List (Str × Nat)} {pos : Pos} {src : IM} {g : T → Sl → Option Sl} {g' : TG} {tt : TM} {el : EM} (hc : X.calm = true) (hN : X.N.Nodup) (ct : CTg X.K g' g (own.map (·.2))) (hi : JI X W tg iter src) (ok : BlkOk X.N X.env.scope scope own)
    (hg : ∀ (s : Shared) (H : Hp) (C : Addr) (cl : List (Str × Addr)) (fp : List Addr), PG (X.blk s H scope (compEnvC scope cl C X.env) fp) tg g')
    (ht : ∀ (s : Shared) (H : Hp) (C : Addr) (cl : List (Str × Addr)) (fp : List Addr), PTs (X.blk s H scope (compEnvC scope cl C X.env) fp) ifs (liftT X.K W0 tt))
    (he : ∀ (s : Shared) (H : Hp) (C : Addr) (cl : List (Str × Addr)) (fp : List Addr), JE (X.blk s H scope (compEnvC scope cl C X.env) fp) W0 elt el) (hs : ∀ x, foldedSetIterable iter X.env x = pure x := by intro _; rfl) :
    JE X W (.ListComp elt [⟨tg, iter, ifs, 0⟩] scope pos) (eLc fl src g tt el) := PE.wk (pe_lc (te := liftE X.K W0 el) hc hN hi ok hg ht he hs) (lift_lc ct)
def tYes : TM := fun _ h Q _ => Q true h
theorem jts_nil : PTs X [] (liftT K W tYes) := ⟨fun pins s σ H Q I hw => pts_nil.run pins s σ H Q I (by
  obtain ⟨S, h, t, Q', E, m, rs, lk, hm, pk⟩ := hw
  exact pk S H h true Fut.refl m hm)⟩
theorem jts_one {c : Expr} {m : TM} (h : JT X W c m) : PTs X [c] (liftT X.K W m) := pts_one h
/-- y = [..] -/
theorem js_setLc (fl : Bool) {i : Nat} {y : Str} {py : Pos} {elt tg iter : Expr} {ifs : List Expr} {scope : Scope} {own : List (Str × Nat)} {pos spos : Pos} {src : IM} {g : T → Sl → Option Sl} {g' : TG} {tt : TM} {el : EM} (hc : X.calm = true) (hN : X.N.Nodup) (hy : X.N[i]? = some y) (hyl : X.env.scope.names.lookup y = some .local)
    (hsw : swapsWith (.ListComp elt [⟨tg, iter, ifs, 0⟩] scope pos) (some (.Name y py)) spos.line X.env = pure true) (ct : CTg X.K g' g (own.map (·.2))) (hi : JI X W tg iter src) (ok : BlkOk X.N X.env.scope scope own)
    (hg : ∀ (s : Shared) (H : Hp) (C : Addr) (cl : List (Str × Addr)) (fp : List Addr), PG (X.blk s H scope (compEnvC scope cl C X.env) fp) tg g')
    (ht : ∀ (s : Shared) (H : Hp) (C : Addr) (cl : List (Str × Addr)) (fp : List Addr), PTs (X.blk s H scope (compEnvC scope cl C X.env) fp) ifs (liftT X.K W0 tt))
    (he : ∀ (s : Shared) (H : Hp) (C : Addr) (cl : List (Str × Addr)) (fp : List Addr), JE (X.blk s H scope (compEnvC scope cl C X.env) fp) W0 elt el) (hs : ∀ x, foldedSetIterable iter X.env x = pure x := by intro _; rfl) :
    JS X W (.Assign [.Name y py] (.ListComp elt [⟨tg, iter, ifs, 0⟩] scope pos) spos) (sAsg (eLc fl src g tt el) (gN i)) := PS.wk (ps_setLc (te := liftE X.K W0 el) hc hN hy hyl hsw hi ok hg ht he hs) fun D' σ H ⟨S, h, s, D, m, rs, lk, hm⟩ =>
  lift_lc ct σ H _ ⟨S, h, s, _, D.ex, m, rs, lk.ex, hm, fun S1 H1 h1 v x f1 m1 r1 q1 => lk.nx S1 H1 h1 _ _ f1 m1 ((rs.fut f1).set r1 i) q1⟩

/-! ### a def -/
def startT (N : Nat) (ts : List T) : Sl := ts.map some ++ List.replicate (N - ts.length) none
/-- what is followed may be forgotten -/
def Sub (h2 h1 : Hq) : Prop := ∀ a o, h2 a = some o → h1 a = some o
def dn (Q : TK) : TK := fun u h1 => ∃ h2, Sub h2 h1 ∧ Q u h2
def dnX (E : Ex → Hq → Prop) : Ex → Hq → Prop := fun x h1 => ∃ h2, Sub h2 h1 ∧ E x h2
theorem dn_self {Q : TK} {u : T} {h : Hq} (q : Q u h) : dn Q u h := ⟨h, fun _ _ e => e, q⟩
theorem dnX_self {E : Ex → Hq → Prop} {u : Ex} {h : Hq} (q : E u h) : dnX E u h := ⟨h, fun _ _ e => e, q⟩
theorem sub_put {h : Hq} {p : Addr} {o : O} (e : h p = none) : Sub h (put h p o) := fun a u q => by
  rw [put_ne (fun z => by rw [z, e] at q; cases q)]; exact q
theorem Sub.put {h1 h2 : Hq} (s : Sub h2 h1) {p : Addr} {o : O} : Sub (TL.put h2 p o) (TL.put h1 p o) := fun a u q => by
  by_cases c : a = p
  · subst c; rw [put_same] at q ⊢; exact q
  · rw [put_ne c] at q ⊢; exact s a u q
def ends (Q : TK) (E : Ex → Hq → Prop) : En := { nx := fun _ h => dn Q .non h, rt := dn Q, ex := fun x _ h => dnX E x h }
theorem fn_ok {P : Program} {w : World} {mg : Str → Option Value} {base : Heap} {x qual : Str} {st : Stmt} {f : Addr} {fd : FuncData} {N ps : List Str} {k : Nat} {c : Con} {B : SM} (F : Fun K x qual st f fd) (sc : FnScope N ps (defScope st)) (hl : ps.length ≤ N.length)
    (J : ∀ (cdv : Value) (A : Around) (outer : List Env) (s : Shared) (H : Hp) (E : XK), Room k (A.deeper (PyProof.Rows.envOfC qual (defScope st) s.heap.objs.size f cdv)) →
      JSs (cxOf (L2.CX P w) P w K mg base N qual (defScope st) f cdv A outer s H E) (fun cls d _ H => E cls d H) (defBody st) B)
    (pl : ∀ ts h Q E, ts.length = ps.length → c ts h Q E → B (ends Q E) (startT N.length ts) h) : FnOk P w K mg base (L2.CX P w) (k + 1) f fd ps (liftSp K ps.length c) := by
  refine F.okX sc (fun vs H Q E ⟨S, h, ts, Q', E', m, r, l, _⟩ => r.length.trans l) fun cdv A outer s H vs Q E hr ⟨S, h, ts, Q', E', m, r, l, q, pk, px⟩ => ⟨_, J cdv A outer s H E hr, ?_⟩
  refine ⟨S, h, startT N.length ts, ends Q' E', m, ?_, ?_, pl ts h Q' E' l q⟩
  · have := RepS.start (N := N) r (by rw [r.length, l]; exact hl)
    exact this
  · exact { nx := fun S1 H1 h1 σ1 s1 f1 m1 r1 ⟨h2, z, q1⟩ => pk S1 H1 h2 _ _ f1 (m1.sub z) .non q1, rt := fun S1 H1 h1 v u f1 m1 r1 ⟨h2, z, q1⟩ => pk S1 H1 h2 _ _ f1 (m1.sub z) r1 q1, bk := fun _ _ _ _ _ _ _ _ z => z.elim, ct := fun _ _ _ _ _ _ _ _ z => z.elim,
            ex := fun S1 H1 h1 σ1 s1 x cls d f1 m1 r1 rx ⟨h2, z, q1⟩ => px S1 H1 h2 x cls d f1 (m1.sub z) rx q1 }
/-- a promise for more -/
theorem fn_wk {P : Program} {w : World} {mg : Str → Option Value} {base : Heap} {CX : CXT} {f : Addr} {fd : FuncData} {ps : List Str} {k : Nat} {sp sp' : Sp} (F : FnOk P w K mg base CX k f fd ps sp) (hs : ∀ vs H Q E, sp' vs H Q E → sp vs H Q E) : FnOk P w K mg base CX k f fd ps sp' :=
  ⟨fun vs H Q E q => F.len vs H Q E (hs vs H Q E q), fun A outer s H args us vs Q E hr e0 b v q => F.run A outer s H args us vs Q E hr e0 b v (hs vs H Q E q)⟩
end
end TL

namespace TL
open PySem L2
inductive Kd where | non | bl | int | str | tup | lst
  deriving DecidableEq
def Kd.nm : Kd → String
  | .non => "NoneType" | .bl => "bool" | .int => "int" | .str => "str" | .tup => "tuple" | .lst => "list"
def kdOf (h : Hq) : T → Option Kd
  | .non => some .non
  | .bl _ => some .bl
  | .int _ => some .int
  | .str _ => some .str
  | .tup _ => some .tup
  | .lst _ => some .lst
  | .ref a => match h a with
    | some (.lst _) => some .lst
    | _ => none
  | _ => none
def isK (k c : Kd) : Bool := decide (k = c) || (decide (k = .bl) && decide (c = .int))
def kdN (n : String) : Option Kd := if n = "int" then some .int else if n = "bool" then some .bl else if n = "str" then some .str else if n = "tuple" then some .tup else if n = "list" then some .lst else none
theorem kit_all : ∀ k c : Kd, c ≠ .non → kitB k.nm c.nm = some (isK k c) := by
  intro k c h
  cases k <;> cases c <;> first | exact absurd rfl h | decide +kernel
theorem kdN_nm {n : String} {c : Kd} (e : kdN n = some c) : n = c.nm ∧ c ≠ .non := by
  unfold kdN at e
  repeat' split at e
  all_goals (cases e; try exact ⟨by assumption, by decide⟩)
section
variable {X : Cx} {W : WX} {K : PySem.W.Frag} {S : Fz} {H : Hp} {h : Hq}
theorem kd_ty (m : Sim K S H h) {v : V} {x : T} {k : Kd} (r : Rep K S H v x) (e : kdOf h x = some k) : TyX K H v (.type k.nm) := by
  cases r with
  | non => cases e; exact .base .non
  | bl b => cases e; exact .base (.bl b)
  | int i => cases e; exact .base (.int i)
  | str x => cases e; exact .base (.str x)
  | tup s hh r => cases e; exact .base (.tup hh)
  | tupK hh r =>
    cases e
    obtain ⟨o, its, n, h1, h2, h3, h4, h5⟩ := hh
    exact .kTuple h1 h2
  | lst s hh r => cases e; exact .base (.lst hh)
  | ref a =>
    simp only [kdOf] at e
    split at e
    · rename_i ts z
      cases e
      obtain ⟨vs, e1, _⟩ := ref_lst m z
      exact .base (.lst e1)
    · cases e
  | ins _ _ _ => cases e
  | ty _ => cases e
  | scr _ _ => cases e
  | scrK _ => cases e
  | exc _ _ _ => cases e
  | exc0 => cases e
/-- isinstance(x, a built-in class) -/
def oIsi : RLT := fun xs h Q => match xs with
  | [x, .ty n] => match kdOf h x, kdN n with
    | some k, some c => Q (.bl (isK k c)) h
    | _, _ => False
  | _ => False
theorem c_isi : CP K (rIsi K) oIsi := fun S H h vs xs Q Q' m r q pk => by
  unfold oIsi at q
  split at q
  · cases r with
    | cons r1 rn => cases rn with
      | cons r2 rn =>
        cases rn
        split at q
        · rename_i k c e1 e2
          obtain ⟨rfl, hc⟩ := kdN_nm e2
          cases r2
          exact ⟨_, _, _, _, _, rfl, .ty _, kd_ty m r1 e1, kit_ty (kit_all k c hc), pk S H h _ _ Fut.refl m (.bl _) q⟩
        · exact q.elim
  · exact q.elim

theorem units65 {k : Nat} {A : Around} (r : Room k A) : A.units + 65 < cLine := by have := r.un; omega

/-! ### the pool: a list of two ints that nobody tells apart -/
def poolOk (a b : Int) : Prop := 0 ≤ a ∧ 0 ≤ b ∧ b < 2147483647
theorem Sim.unpool (m : Sim K S H h) {p : Addr} (e : h p = some .pool) : ∃ a b, poolOk a b ∧ Sim K S H (put h p (.lst [.int a, .int b])) := by
  obtain ⟨u, e1, a, b, e2, o1, o2, o3⟩ := m.ob p _ e
  refine ⟨a, b, ⟨o1, o2, o3⟩, ⟨fun c s => ?_, m.al, m.dj, fun c o q => ?_⟩⟩
  · rw [put_ne (neS s (m.nS' e))]; exact m.fr c s
  · by_cases z : c = p
    · subst z; rw [put_same] at q; cases q; exact ⟨u, e1, _, e2, .cons (.int a) (.cons (.int b) .nil)⟩
    · rw [put_ne z] at q; exact m.ob c o q
theorem Sim.repool {p : Addr} {a b : Int} (m : Sim K S H (put h p (.lst [.int a, .int b]))) (o : poolOk a b) : Sim K S H (put h p .pool) := by
  refine ⟨fun c s => ?_, m.al, m.dj, fun c o' q => ?_⟩
  · have z := m.fr c s
    by_cases y : c = p
    · subst y; rw [put_same] at z; cases z
    · rw [put_ne y] at z ⊢; exact z
  · by_cases z : c = p
    · subst z
      rw [put_same] at q; cases q
      obtain ⟨u, e1, vs, e2, r⟩ := m.ob c (.lst [.int a, .int b]) put_same
      have := RepL.ints (ns := [a, b]) r
      exact ⟨u, e1, a, b, by rw [e2, this]; rfl, o⟩
    · rw [put_ne z] at q
      exact m.ob c o' (by rw [put_ne z]; exact q)
/-- _law_hand(script, k) -/
def CxHand : Con := fun ts h Q _ => ∃ ns k, ts = [.scr ns, .int k] ∧ 0 ≤ k ∧ k ≤ 63 ∧ ns.length ≤ 63 ∧ ∀ a b, poolOk a b → ∀ p, h p = none → Q (.ref p) (put h p (.lst [.int a, .int b]))
def CHand : Con := fun ts h Q _ => ∃ ns k, ts = [.scr ns, .int k] ∧ 0 ≤ k ∧ k ≤ 63 ∧ ns.length ≤ 63 ∧ ∀ p, h p = none → Q (.ref p) (put h p .pool)
theorem hand_wk : ∀ vs H Q E, liftSp K 2 CHand vs H Q E → liftSp K 2 CxHand vs H Q E := fun vs H Q' E' ⟨S, h, ts, Q, E, m, r, l, ⟨ns, k, et, k0, k1, hn, q⟩, pk, px⟩ =>
  ⟨S, h, ts, fun u h1 => ∃ p a b, poolOk a b ∧ h p = none ∧ u = .ref p ∧ h1 = put h p (.lst [.int a, .int b]), E, m, r, l, ⟨ns, k, et, k0, k1, hn, fun a b o p hp => ⟨p, a, b, o, hp, rfl, rfl⟩⟩, fun S1 H1 h1 v u f1 m1 r1 ⟨p, a, b, o, hp, eu, eh⟩ => by
    subst eu eh
    exact pk S1 H1 _ v _ f1 (m1.repool o) r1 (q p hp), px⟩
/-- _law_draw(pool, many) -/
def CxDraw : Con := fun ts h Q _ => ∃ p n a b, ts = [.ref p, .int n] ∧ 0 < n ∧ n < 2 ^ 250 ∧ h p = some (.lst [.int a, .int b]) ∧ poolOk a b ∧ ∀ r a' b', 0 ≤ r → r < n → poolOk a' b' → Q (.int r) (put h p (.lst [.int a', .int b']))
def CDraw : Con := fun ts h Q _ => ∃ p n, ts = [.ref p, .int n] ∧ 0 < n ∧ n < 2 ^ 250 ∧ h p = some .pool ∧ ∀ r, 0 ≤ r → r < n → Q (.int r) h
theorem draw_wk : ∀ vs H Q E, liftSp K 2 CDraw vs H Q E → liftSp K 2 CxDraw vs H Q E := fun vs H Q' E' ⟨S, h, ts, Q, E, m, r, l, ⟨p, n, et, n0, n1, hp, q⟩, pk, px⟩ => by
  obtain ⟨a, b, o, m'⟩ := m.unpool hp
  refine ⟨S, _, ts, fun u h1 => ∃ r a' b', 0 ≤ r ∧ r < n ∧ poolOk a' b' ∧ u = .int r ∧ h1 = put h p (.lst [.int a', .int b']), fun _ _ => False, m', r, l, ⟨p, n, a, b, et, n0, n1, put_same, o, fun r a' b' r0 r1 o' => ⟨r, a', b', r0, r1, o', rfl, by rw [put_put]⟩⟩, fun S1 H1 h1 v u f1 m1 r1 ⟨r, a', b', r0, r1', o', eu, eh⟩ => ?_, fun _ _ _ _ _ _ _ _ _ z => z.elim⟩
  subst eu eh
  have m2 := m1.repool o'
  rw [put_id hp] at m2
  exact pk S1 H1 _ v _ f1 m2 r1 (q r r0 r1')
/-! ### the law's own end -/
theorem law_start {c : Con} {H : Hp} {a : Addr} {ns : List Int} (hS : SqL K H a (ns.map V.int)) (hc : c [.scr ns] (fun _ => none) (fun u _ => u = .bl true) fun _ _ => False) : liftSp K 1 c [.ref a] H (fun v _ => v = .bl true) fun _ _ _ => False := by
  rcases hS with hS | hS
  · have ha : H a ≠ none := by rcases hS with z | ⟨o, z⟩ <;> (rw [z]; exact fun y => nomatch y)
    exact ⟨⟨fun b => b = a, fun _ => False⟩, fun _ => none, [.scr ns], _, _, ⟨fun _ _ => rfl, fun b s => s.elim (fun z => by rw [z]; exact ha) False.elim, fun _ _ z => z, fun _ _ z => nomatch z⟩, .cons (.scr rfl hS) .nil, rfl, hc, fun S1 H1 h1 v u f1 m1 r1 e => by
      subst e; cases r1; rfl, fun _ _ _ _ _ _ _ _ _ z => z.elim⟩
  · exact ⟨⟨fun b => False, fun _ => False⟩, fun _ => none, [.scr ns], _, _, ⟨fun _ _ => rfl, fun b s => s.elim False.elim False.elim, fun _ z => z.elim, fun _ _ z => nomatch z⟩, .cons (.scrK hS) .nil, rfl, hc, fun S1 H1 h1 v u f1 m1 r1 e => by
      subst e; cases r1; rfl, fun _ _ _ _ _ _ _ _ _ z => z.elim⟩
theorem no_law {P : Program} {w : World} {H : Hp} {s : Shared} {e : Value} {s' : Shared} (c : L2.CX P w [] H s (fun _ _ _ => False) e s') : False := by
  obtain ⟨_, _, _, _, _, _, _, _, _, _, _, _, z⟩ := c
  exact z
end
end TL

/-! plain tools over trees: no program here -/
namespace TL
open PySem L2
theorem atI_nat' {α : Type} {xs : List α} {n : Nat} {x : α} (h : xs[n]? = some x) : atI xs (n : Int) = some x := by
  unfold atI ixN
  have hl : n < xs.length := (List.getElem?_eq_some_iff.mp h).1
  rw [if_pos (by omega), if_pos (by omega)]
  simpa using h
theorem atI_0 {α : Type} {x : α} {xs : List α} : atI (x :: xs) 0 = some x := atI_nat' (n := 0) rfl
theorem atI_1 {α : Type} {a x : α} {xs : List α} : atI (a :: x :: xs) 1 = some x := atI_nat' (n := 1) rfl
theorem atI_2 {α : Type} {a b x : α} {xs : List α} : atI (a :: b :: x :: xs) 2 = some x := atI_nat' (n := 2) rfl
theorem atI_3 {α : Type} {a b c x : α} {xs : List α} : atI (a :: b :: c :: x :: xs) 3 = some x := atI_nat' (n := 3) rfl
theorem atI_4 {α : Type} {a b c d x : α} {xs : List α} : atI (a :: b :: c :: d :: x :: xs) 4 = some x := atI_nat' (n := 4) rfl
theorem atI_5 {α : Type} {a b c d e x : α} {xs : List α} : atI (a :: b :: c :: d :: e :: x :: xs) 5 = some x := atI_nat' (n := 5) rfl
theorem atI_6 {α : Type} {a b c d e f x : α} {xs : List α} : atI (a :: b :: c :: d :: e :: f :: x :: xs) 6 = some x := atI_nat' (n := 6) rfl
theorem atI_7 {α : Type} {a b c d e f g x : α} {xs : List α} : atI (a :: b :: c :: d :: e :: f :: g :: x :: xs) 7 = some x := atI_nat' (n := 7) rfl
theorem atI_8 {α : Type} {a b c d e f g h x : α} {xs : List α} : atI (a :: b :: c :: d :: e :: f :: g :: h :: x :: xs) 8 = some x := atI_nat' (n := 8) rfl
theorem atI_m1 {α : Type} {x : α} {xs : List α} : atI (xs ++ [x]) (-1) = some x := by
  unfold atI ixN
  rw [if_neg (by omega), if_pos (by simp; omega)]
  have e : (-1 + (((xs ++ [x]).length : Nat) : Int)).toNat = xs.length := by simp; omega
  show (xs ++ [x])[(-1 + (((xs ++ [x]).length : Nat) : Int)).toNat]? = some x
  rw [e]
  simp
theorem ixN_0 {n : Nat} : ixN (n + 1) 0 = some 0 := by unfold ixN; rw [if_pos (by omega), if_pos (by omega)]; rfl
theorem ixN_1 {n : Nat} : ixN (n + 1 + 1) 1 = some 1 := by unfold ixN; rw [if_pos (by omega), if_pos (by omega)]; rfl
theorem ixN_nat {n i : Nat} (h : i < n) : ixN n (i : Int) = some i := by unfold ixN; rw [if_pos (by omega), if_pos (by omega)]; simp
theorem atI_map {α β : Type} {f : α → β} {xs : List α} {i : Nat} {x : α} (h : xs[i]? = some x) : atI (xs.map f) (i : Int) = some (f x) := atI_nat' (by rw [List.getElem?_map, h]; rfl)

theorem kdN_int : kdN "int" = some .int := by decide
theorem kdN_bool : kdN "bool" = some .bl := by decide
theorem kdN_str : kdN "str" = some .str := by decide
theorem kdN_list : kdN "list" = some .lst := by decide
theorem kdN_tuple : kdN "tuple" = some .tup := by decide
theorem view_int {h : Hq} {i : Int} : view h (.int i) = .int i := rfl
theorem view_non {h : Hq} : view h .non = .non := rfl
theorem dep_int {i : Int} : depth? (.int i) = true := rfl
theorem dep_non : depth? .non = true := rfl

/-! ### data, == -/
def dat : Nat → T → Bool
  | 0, _ => false
  | _ + 1, .non => true
  | _ + 1, .bl _ => true
  | _ + 1, .int _ => true
  | _ + 1, .str x => PyData.strOk x
  | n + 1, .tup ts => ts.all (dat n)
  | n + 1, .lst ts => ts.all (dat n)
  | _ + 1, _ => false
theorem dat_toDs {n : Nat} (ih : ∀ t, dat n t = true → ∃ d, toD t = some d ∧ d.depth ≤ n) : ∀ ts : List T, ts.all (dat n) = true → ∃ ds, toDs ts = some ds ∧ PyData.depthAll ds ≤ n
  | [], _ => ⟨[], rfl, Nat.zero_le _⟩
  | t :: ts, h => by
    rw [List.all_cons, Bool.and_eq_true] at h
    obtain ⟨d, e1, n1⟩ := ih t h.1
    obtain ⟨ds, e2, n2⟩ := dat_toDs ih ts h.2
    refine ⟨d :: ds, by unfold toDs; rw [e1, e2], ?_⟩
    unfold PyData.depthAll
    omega
theorem dat_toD : ∀ (n : Nat) (t : T), dat n t = true → ∃ d, toD t = some d ∧ d.depth ≤ n
  | 0, _, h => by cases h
  | n + 1, .non, _ => ⟨_, rfl, by unfold PyData.depth; omega⟩
  | n + 1, .bl _, _ => ⟨_, rfl, by unfold PyData.depth; omega⟩
  | n + 1, .int _, _ => ⟨_, rfl, by unfold PyData.depth; omega⟩
  | n + 1, .str x, h => ⟨.str x, by unfold toD; exact if_pos h, by unfold PyData.depth; omega⟩
  | n + 1, .tup ts, h => by
    obtain ⟨ds, e, k⟩ := dat_toDs (dat_toD n) ts h
    exact ⟨.tuple ds, by unfold toD; rw [e]; rfl, by unfold PyData.depth; omega⟩
  | n + 1, .lst ts, h => by
    obtain ⟨ds, e, k⟩ := dat_toDs (dat_toD n) ts h
    exact ⟨.list ds, by unfold toD; rw [e]; rfl, by unfold PyData.depth; omega⟩
  | n + 1, .ins _ _, h => by cases h
  | n + 1, .ref _, h => by cases h
  | n + 1, .ty _, h => by cases h
  | n + 1, .scr _, h => by cases h
theorem dep {n : Nat} {t : T} (h : dat n t = true) (hn : n ≤ 64 := by decide) : depth? t = true := by
  obtain ⟨d, e, k⟩ := dat_toD n t h
  unfold depth?
  rw [e]
  exact decide_eq_true (by omega)
/-- data without truth values: == is = -/
def cln : Nat → T → Bool
  | 0, _ => false
  | _ + 1, .non => true
  | _ + 1, .int _ => true
  | _ + 1, .str x => PyData.strOk x
  | n + 1, .tup ts => ts.all (cln n)
  | n + 1, .lst ts => ts.all (cln n)
  | _ + 1, _ => false
theorem cln_dat : ∀ (n : Nat) (t : T), cln n t = true → dat n t = true
  | 0, _, h => by cases h
  | n + 1, .non, _ => rfl
  | n + 1, .int _, _ => rfl
  | n + 1, .str x, h => h
  | n + 1, .tup ts, h => by
    unfold cln at h; unfold dat
    rw [List.all_eq_true] at *
    exact fun x hx => cln_dat n x (h x hx)
  | n + 1, .lst ts, h => by
    unfold cln at h; unfold dat
    rw [List.all_eq_true] at *
    exact fun x hx => cln_dat n x (h x hx)
  | n + 1, .bl _, h => by cases h
  | n + 1, .ins _ _, h => by cases h
  | n + 1, .ref _, h => by cases h
  | n + 1, .ty _, h => by cases h
  | n + 1, .scr _, h => by cases h
def eqTs : List T → List T → Bool
  | [], [] => true
  | x :: xs, y :: ys => eqT x y && eqTs xs ys
  | _, _ => false
theorem eqTs_ok : ∀ {xs ys : List T} {ds es : List PyData}, toDs xs = some ds → toDs ys = some es → PyData.eqvAll ds es = eqTs xs ys
  | [], [], _, _, e1, e2 => by cases e1; cases e2; rfl
  | [], y :: ys, _, _, e1, e2 => by
    cases e1
    unfold toDs at e2
    split at e2
    · cases e2; rfl
    · cases e2
  | x :: xs, [], _, _, e1, e2 => by
    cases e2
    unfold toDs at e1
    split at e1
    · cases e1; rfl
    · cases e1
  | x :: xs, y :: ys, _, _, e1, e2 => by
    unfold toDs at e1 e2
    split at e1
    · rename_i d ds a1 a2
      split at e2
      · rename_i e es b1 b2
        cases e1; cases e2
        show (PyData.eqv d e && PyData.eqvAll ds es) = (eqT x y && eqTs xs ys)
        rw [eqTs_ok a2 b2]
        unfold eqT
        rw [a1, b1]
      · cases e2
    · cases e1
theorem eqT_lst {n m : Nat} {xs ys : List T} (h1 : dat n (.lst xs) = true) (h2 : dat m (.lst ys) = true) : eqT (.lst xs) (.lst ys) = eqTs xs ys := by
  obtain ⟨d, e1, _⟩ := dat_toD _ _ h1
  obtain ⟨e, e2, _⟩ := dat_toD _ _ h2
  unfold eqT
  rw [e1, e2]
  unfold toD at e1 e2
  cases a : toDs xs with
  | none => rw [a] at e1; cases e1
  | some ds =>
    cases b : toDs ys with
    | none => rw [b] at e2; cases e2
    | some es =>
      rw [a] at e1; rw [b] at e2
      cases e1; cases e2
      exact eqTs_ok a b
theorem eqT_tup {n m : Nat} {xs ys : List T} (h1 : dat n (.tup xs) = true) (h2 : dat m (.tup ys) = true) : eqT (.tup xs) (.tup ys) = eqTs xs ys := by
  obtain ⟨d, e1, _⟩ := dat_toD _ _ h1
  obtain ⟨e, e2, _⟩ := dat_toD _ _ h2
  unfold eqT
  rw [e1, e2]
  unfold toD at e1 e2
  cases a : toDs xs with
  | none => rw [a] at e1; cases e1
  | some ds =>
    cases b : toDs ys with
    | none => rw [b] at e2; cases e2
    | some es =>
      rw [a] at e1; rw [b] at e2
      cases e1; cases e2
      exact eqTs_ok a b
theorem eqT_int (i j : Int) : eqT (.int i) (.int j) = decide (i = j) := by
  show (i == j) = _
  rw [Bool.beq_eq_decide_eq]
theorem eqT_bl (i j : Bool) : eqT (.bl i) (.bl j) = (i == j) := rfl
theorem eqT_nn : eqT .non .non = true := rfl
theorem eqT_in (i : Int) : eqT (.int i) .non = false := rfl
theorem eqT_ni (i : Int) : eqT .non (.int i) = false := rfl
theorem eqT_str {x y : Str} (h1 : PyData.strOk x = true) (h2 : PyData.strOk y = true) : eqT (.str x) (.str y) = decide (x = y) := by
  unfold eqT toD
  rw [if_pos h1, if_pos h2]
  show (x == y) = _
  rw [Bool.beq_eq_decide_eq]
mutual
theorem eqT_iff : ∀ (n : Nat) (x y : T), cln n x = true → cln n y = true → (eqT x y = true ↔ x = y)
  | 0, _, _, h, _ => by cases h
  | n + 1, x, y, h1, h2 => by
    have no : ∀ {a b : T}, eqT a b = false → a ≠ b → (eqT a b = true ↔ a = b) := fun e d => ⟨fun q => (by rw [e] at q; cases q), fun q => absurd q d⟩
    have kind : ∀ {k : PyData} {a b : T}, toD a = some k → (∀ e, toD b = some e → PyData.eqv k e = false) → eqT a b = false := fun {k a b} e f => by
      unfold eqT
      rw [e]
      split
      · rename_i d e' q1 q2; cases q1; exact f _ q2
      · rfl
    have lstD : ∀ {ts : List T} {e : PyData}, toD (.lst ts) = some e → ∃ es, e = .list es := fun {ts e} q => by
      unfold toD at q
      cases a : toDs ts with
      | none => rw [a] at q; cases q
      | some ds => rw [a] at q; cases q; exact ⟨ds, rfl⟩
    have tupD : ∀ {ts : List T} {e : PyData}, toD (.tup ts) = some e → ∃ es, e = .tuple es := fun {ts e} q => by
      unfold toD at q
      cases a : toDs ts with
      | none => rw [a] at q; cases q
      | some ds => rw [a] at q; cases q; exact ⟨ds, rfl⟩
    have strD : ∀ {z : Str} {e : PyData}, toD (.str z) = some e → e = .str z := fun {z e} q => by
      unfold toD at q
      split at q
      · cases q; rfl
      · cases q
    obtain ⟨dx, ex, _⟩ := dat_toD _ _ (cln_dat _ _ h1)
    cases x with
    | non => cases y with
      | non => exact ⟨fun _ => rfl, fun _ => rfl⟩
      | int j => exact no rfl (fun q => nomatch q)
      | str z => exact no (kind rfl fun e q => by rw [strD q]; rfl) (fun q => nomatch q)
      | tup ts => exact no (kind rfl fun e q => by obtain ⟨es, rfl⟩ := tupD q; rfl) (fun q => nomatch q)
      | lst ts => exact no (kind rfl fun e q => by obtain ⟨es, rfl⟩ := lstD q; rfl) (fun q => nomatch q)
      | bl _ => cases h2
      | ins _ _ => cases h2
      | ref _ => cases h2
      | ty _ => cases h2
      | scr _ => cases h2
      | exc _ _ _ _ => cases h2
    | int i => cases y with
      | non => exact no rfl (fun q => nomatch q)
      | int j => rw [eqT_int]; exact ⟨fun q => (by rw [of_decide_eq_true q]), fun q => (by cases q; exact decide_eq_true rfl)⟩
      | str z => exact no (kind rfl fun e q => by rw [strD q]; rfl) (fun q => nomatch q)
      | tup ts => exact no (kind rfl fun e q => by obtain ⟨es, rfl⟩ := tupD q; rfl) (fun q => nomatch q)
      | lst ts => exact no (kind rfl fun e q => by obtain ⟨es, rfl⟩ := lstD q; rfl) (fun q => nomatch q)
      | bl _ => cases h2
      | ins _ _ => cases h2
      | ref _ => cases h2
      | ty _ => cases h2
      | scr _ => cases h2
      | exc _ _ _ _ => cases h2
    | str w =>
      rw [strD ex] at ex
      cases y with
      | non => exact no (kind ex fun e q => by cases q; rfl) (fun q => nomatch q)
      | int j => exact no (kind ex fun e q => by cases q; rfl) (fun q => nomatch q)
      | str z => rw [eqT_str h1 h2]; exact ⟨fun q => (by rw [of_decide_eq_true q]), fun q => (by cases q; exact decide_eq_true rfl)⟩
      | tup ts => exact no (kind ex fun e q => by obtain ⟨es, rfl⟩ := tupD q; rfl) (fun q => nomatch q)
      | lst ts => exact no (kind ex fun e q => by obtain ⟨es, rfl⟩ := lstD q; rfl) (fun q => nomatch q)
      | bl _ => cases h2
      | ins _ _ => cases h2
      | ref _ => cases h2
      | ty _ => cases h2
      | scr _ => cases h2
      | exc _ _ _ _ => cases h2
    | tup us =>
      obtain ⟨ds, rfl⟩ := tupD ex
      cases y with
      | non => exact no (kind ex fun e q => by cases q; rfl) (fun q => nomatch q)
      | int j => exact no (kind ex fun e q => by cases q; rfl) (fun q => nomatch q)
      | str z => exact no (kind ex fun e q => by rw [strD q]; rfl) (fun q => nomatch q)
      | tup ts =>
        rw [eqT_tup (cln_dat _ _ h1) (cln_dat _ _ h2), eqTs_iff n us ts h1 h2]
        exact ⟨fun q => by rw [q], fun q => by cases q; rfl⟩
      | lst ts => exact no (kind ex fun e q => by obtain ⟨es, rfl⟩ := lstD q; rfl) (fun q => nomatch q)
      | bl _ => cases h2
      | ins _ _ => cases h2
      | ref _ => cases h2
      | ty _ => cases h2
      | scr _ => cases h2
      | exc _ _ _ _ => cases h2
    | lst us =>
      obtain ⟨ds, rfl⟩ := lstD ex
      cases y with
      | non => exact no (kind ex fun e q => by cases q; rfl) (fun q => nomatch q)
      | int j => exact no (kind ex fun e q => by cases q; rfl) (fun q => nomatch q)
      | str z => exact no (kind ex fun e q => by rw [strD q]; rfl) (fun q => nomatch q)
      | tup ts => exact no (kind ex fun e q => by obtain ⟨es, rfl⟩ := tupD q; rfl) (fun q => nomatch q)
      | lst ts =>
        rw [eqT_lst (cln_dat _ _ h1) (cln_dat _ _ h2), eqTs_iff n us ts h1 h2]
        exact ⟨fun q => by rw [q], fun q => by cases q; rfl⟩
      | bl _ => cases h2
      | ins _ _ => cases h2
      | ref _ => cases h2
      | ty _ => cases h2
      | scr _ => cases h2
      | exc _ _ _ _ => cases h2
    | bl _ => cases h1
    | ins _ _ => cases h1
    | ref _ => cases h1
    | ty _ => cases h1
    | scr _ => cases h1
    | exc _ _ _ _ => cases h1
theorem eqTs_iff : ∀ (n : Nat) (xs ys : List T), xs.all (cln n) = true → ys.all (cln n) = true → (eqTs xs ys = true ↔ xs = ys)
  | n, [], [], _, _ => ⟨fun _ => rfl, fun _ => rfl⟩
  | n, [], y :: ys, _, _ => ⟨fun q => (Bool.noConfusion q), fun q => nomatch q⟩
  | n, x :: xs, [], _, _ => ⟨fun q => (Bool.noConfusion q), fun q => nomatch q⟩
  | n, x :: xs, y :: ys, h1, h2 => by
    rw [List.all_cons, Bool.and_eq_true] at h1 h2
    show (eqT x y && eqTs xs ys) = true ↔ _
    rw [Bool.and_eq_true, eqT_iff n x y h1.1 h2.1, eqTs_iff n xs ys h1.2 h2.2]
    exact ⟨fun q => by rw [q.1, q.2], fun q => by cases q; exact ⟨rfl, rfl⟩⟩
end
theorem eqT_dec {n : Nat} {x y : T} {p : Prop} [Decidable p] (h1 : cln n x = true) (h2 : cln n y = true) (e : x = y ↔ p) : eqT x y = decide p := by
  have := eqT_iff n x y h1 h2
  by_cases c : p
  · rw [decide_eq_true c]; exact this.mpr (e.mpr c)
  · rw [decide_eq_false c]
    cases q : eqT x y with
    | false => rfl
    | true => exact absurd (e.mp (this.mp q)) c
theorem inT_iff {n : Nat} {x : T} {ys : List T} (h1 : cln n x = true) (h2 : ys.all (cln n) = true) : inT x ys = true ↔ x ∈ ys := by
  unfold inT
  rw [List.any_eq_true]
  rw [List.all_eq_true] at h2
  constructor
  · rintro ⟨y, hy, e⟩
    rw [(eqT_iff n y x (h2 y hy) h1).mp e] at hy
    exact hy
  · intro hx
    exact ⟨x, hx, (eqT_iff n x x h1 h1).mpr rfl⟩
theorem map_int_inj {xs ys : List Int} : xs.map T.int = ys.map T.int ↔ xs = ys := by
  constructor
  · intro e
    have : (xs.map T.int).map (fun t => match t with | .int i => i | _ => 0) = (ys.map T.int).map (fun t => match t with | .int i => i | _ => 0) := by rw [e]
    simpa [List.map_map, Function.comp_def] using this
  · intro e; rw [e]
theorem ints_cln (n : Nat) (xs : List Int) : (xs.map T.int).all (cln (n + 1)) = true := by
  rw [List.all_eq_true]
  intro t ht
  obtain ⟨i, _, rfl⟩ := List.mem_map.mp ht
  rfl
theorem ints_dat (n : Nat) (xs : List Int) : (xs.map T.int).all (dat (n + 1)) = true := by
  rw [List.all_eq_true]
  intro t ht
  obtain ⟨i, _, rfl⟩ := List.mem_map.mp ht
  rfl

/-! ### loops and comprehensions by what they come to -/
theorem lc_pure {fl : Bool} {ts : List T} {stay : Hq → Prop} {g : T → Sl → Option Sl} {s : Sl} {tt : TM} {el : EM} {h : Hq} {Q : TK} (f : T → Option T) (hst : stay h) (hl : ts.length ≤ lim)
    (hs : ∀ t ∈ ts, ∀ R : Option T → Hq → Prop, R (f t) h → match g t s with
      | some s2 => tt s2 h (fun b h3 => if b = true then el s2 h3 (fun y h4 => R (some y) h4) E0 else R none h3) E0
      | none => False) (hQ : mk fl (ts.filterMap f) h Q) :
    ∃ I : Nat → List T → Hq → Prop, I 0 [] h ∧ ∀ i acc h, i ≤ ts.length → I i acc h → stay h ∧ match ts[i]? with
      | none => mk fl acc h Q
      | some t => acc.length < lim ∧ match g t s with
        | some s2 => tt s2 h (fun b h3 => if b = true then el s2 h3 (fun y h4 => I (i + 1) (acc ++ [y]) h4) E0 else I (i + 1) acc h3) E0
        | none => False := by
  refine ⟨fun i acc h' => acc = (ts.take i).filterMap f ∧ h' = h, ⟨by simp, rfl⟩, ?_⟩
  rintro i acc h' hi ⟨rfl, rfl⟩
  refine ⟨hst, ?_⟩
  cases e : ts[i]? with
  | none =>
    have : ts.take i = ts := List.take_of_length_le (List.getElem?_eq_none_iff.mp e)
    show mk fl ((ts.take i).filterMap f) h' Q
    rw [this]
    exact hQ
  | some t =>
    have hm : t ∈ ts := List.mem_of_getElem? e
    have hi' : i < ts.length := (List.getElem?_eq_some_iff.mp e).1
    refine ⟨?_, ?_⟩
    · have h1 := List.length_filterMap_le f (ts.take i)
      have h2 : (ts.take i).length ≤ i := by rw [List.length_take]; omega
      omega
    · have q := hs t hm (fun o h4 => h4 = h' ∧ o = f t) ⟨rfl, rfl⟩
      have tk : (ts.take (i + 1)).filterMap f = (ts.take i).filterMap f ++ (f t).toList := by
        rw [List.take_add_one, e, List.filterMap_append]
        cases z : f t <;> simp [z]
      have q2 := hs t hm (fun o h4 => (ts.take i).filterMap f ++ o.toList = (ts.take (i + 1)).filterMap f ∧ h4 = h') ⟨tk.symm, rfl⟩
      dsimp only at q2 ⊢
      simpa using q2
theorem lcK_pure {fl : Bool} {ts : List T} {stay : Hq → Prop} {g : T → Sl → Option Sl} {tt : TM} {el : EM} {s : Sl} {h : Hq} {Q : TK} (f : T → Option T) (hst : stay h) (hl : ts.length ≤ 1000000)
    (hs : ∀ t ∈ ts, ∀ R : Option T → Hq → Prop, R (f t) h → match g t s with
      | some s2 => tt s2 h (fun b h3 => if b = true then el s2 h3 (fun y h4 => R (some y) h4) E0 else R none h3) E0
      | none => False) (hQ : mk fl (ts.filterMap f) h Q) : LcK fl ts stay g tt el s h Q := lc_pure f hst hl hs hQ
/-- every item goes in as it is told -/
theorem lcK_map {fl : Bool} {ts : List T} {stay : Hq → Prop} {g : T → Sl → Option Sl} {el : EM} {s : Sl} {h : Hq} {Q : TK} (f : T → T) (hst : stay h) (hl : ts.length ≤ 1000000)
    (hs : ∀ t ∈ ts, ∀ R : TK, R (f t) h → match g t s with
      | some s2 => el s2 h R E0
      | none => False) (hQ : mk fl (ts.map f) h Q) : LcK fl ts stay g tYes el s h Q := by
  refine lc_pure (fun t => some (f t)) hst hl (fun t ht R r => ?_) (by rw [List.filterMap_eq_map']; exact hQ)
  have q := hs t ht (fun y h4 => R (some y) h4) r
  split at q
  · exact iteT (B := R none h) q
  · exact q.elim
theorem put_comm {h : Hq} {a b : Addr} {x y : O} (n : a ≠ b) : put (put h a x) b y = put (put h b y) a x := by
  funext c
  unfold put
  by_cases c1 : c = a
  · subst c1; rw [if_neg n, if_pos rfl, if_pos rfl]
  · rw [if_neg c1]; split <;> rfl
theorem put_none {h : Hq} {a b : Addr} {x : O} (e : put h a x b = none) : b ≠ a ∧ h b = none := by
  by_cases c : b = a
  · subst c; rw [put_same] at e; cases e
  · exact ⟨c, by rw [put_ne c] at e; exact e⟩
theorem enum_at {ts : List T} {i : Nat} {t : T} (e : (enumT ts)[i]? = some t) : ∃ x, ts[i]? = some x ∧ t = .tup [.int i, x] := by
  unfold enumT at e
  rw [List.getElem?_mapIdx] at e
  cases z : ts[i]? with
  | none => rw [z] at e; cases e
  | some x => rw [z] at e; cases e; exact ⟨x, rfl, rfl⟩
theorem enum_len {ts : List T} : (enumT ts).length = ts.length := by unfold enumT; simp
theorem rng_at {lo : Int} {n i : Nat} {t : T} (e : (rng lo n)[i]? = some t) : i < n ∧ t = .int (lo + i) := by
  unfold rng at e
  rw [List.getElem?_map] at e
  by_cases c : i < n
  · rw [List.getElem?_range c] at e; cases e; exact ⟨c, rfl⟩
  · rw [List.getElem?_eq_none_iff.mpr (by simp; omega)] at e; cases e
theorem rng_none {lo : Int} {n i : Nat} (e : (rng lo n)[i]? = none) : n ≤ i := by
  unfold rng at e
  have := List.getElem?_eq_none_iff.mp e
  simpa using this
theorem rng_len {lo : Int} {n : Nat} : (rng lo n).length = n := by unfold rng; simp
theorem filterMap_ite {α β : Type} (p : α → Bool) (f : α → β) : ∀ l : List α, (l.filterMap fun k => if p k = true then some (f k) else none) = (l.filter p).map f
  | [] => rfl
  | x :: l => by
    have ih := filterMap_ite p f l
    cases c : p x with
    | true => rw [List.filterMap_cons_some (b := f x) (by simp [c]), List.filter_cons_of_pos (by simp [c]), ih]; rfl
    | false => rw [List.filterMap_cons_none (by simp [c]), List.filter_cons_of_neg (by simp [c]), ih]
theorem forK_go {ts : List T} {stay : Hq → Prop} {g : GM} {b : SM} {D : En} {s : Sl} {h : Hq} (I : Nat → SK) (h0 : I 0 s h)
    (hend : ∀ s h, I ts.length s h → stay h ∧ D.nx s h) (hstep : ∀ i t s h, ts[i]? = some t → I i s h → stay h ∧ g t s h (fun s2 h2 => b { D with nx := I (i + 1), ct := I (i + 1), bk := D.nx } s2 h2) D.ex) : ForK ts stay g b D s h := by
  refine ⟨I, h0, fun i s h hi q => ?_⟩
  cases e : ts[i]? with
  | none =>
    have : i = ts.length := Nat.le_antisymm hi (List.getElem?_eq_none_iff.mp e)
    subst this
    exact hend s h q
  | some t => exact hstep i t s h e q
/-- over items that are told by others -/
theorem lcK_fA {α : Type} {fl : Bool} {enc : α → T} {xs : List α} {stay : Hq → Prop} {g : T → Sl → Option Sl} {tt : TM} {el : EM} {s : Sl} {h : Hq} {Q : TK} (f : α → Option T) (hst : stay h) (hl : xs.length ≤ 1000000)
    (hs : ∀ x ∈ xs, ∀ R : Option T → Hq → Prop, R (f x) h → match g (enc x) s with
      | some s2 => tt s2 h (fun b h3 => if b = true then el s2 h3 (fun y h4 => R (some y) h4) E0 else R none h3) E0
      | none => False) (hQ : mk fl (xs.filterMap f) h Q) : LcK fl (xs.map enc) stay g tt el s h Q := by
  refine ⟨fun i acc h' => acc = (xs.take i).filterMap f ∧ h' = h, ⟨by simp, rfl⟩, ?_⟩
  rintro i acc h' hi ⟨rfl, rfl⟩
  refine ⟨hst, ?_⟩
  cases e : xs[i]? with
  | none =>
    have : xs.take i = xs := List.take_of_length_le (List.getElem?_eq_none_iff.mp e)
    rw [List.getElem?_map, e, this]
    exact hQ
  | some x =>
    have hm : x ∈ xs := List.mem_of_getElem? e
    have hi' : i < xs.length := (List.getElem?_eq_some_iff.mp e).1
    rw [List.getElem?_map, e]
    refine ⟨?_, ?_⟩
    · have h1 := List.length_filterMap_le f (xs.take i)
      have h2 : (xs.take i).length ≤ i := by rw [List.length_take]; omega
      show _ < 1000000
      omega
    · have tk : (xs.take (i + 1)).filterMap f = (xs.take i).filterMap f ++ (f x).toList := by
        rw [List.take_add_one, e, List.filterMap_append]
        cases z : f x <;> simp [z]
      have q2 := hs x hm (fun o h4 => (xs.take i).filterMap f ++ o.toList = (xs.take (i + 1)).filterMap f ∧ h4 = h') ⟨tk.symm, rfl⟩
      simp only [Option.toList_some, Option.toList_none, List.append_nil] at q2
      exact q2
theorem lcK_mA {α : Type} {fl : Bool} {enc : α → T} {xs : List α} {stay : Hq → Prop} {g : T → Sl → Option Sl} {el : EM} {s : Sl} {h : Hq} {Q : TK} (f : α → T) (hst : stay h) (hl : xs.length ≤ 1000000)
    (hs : ∀ x ∈ xs, ∀ R : TK, R (f x) h → match g (enc x) s with
      | some s2 => el s2 h R E0
      | none => False) (hQ : mk fl (xs.map f) h Q) : LcK fl (xs.map enc) stay g tYes el s h Q := by
  refine lcK_fA (fun t => some (f t)) hst hl (fun t ht R r => ?_) (by rw [List.filterMap_eq_map']; exact hQ)
  have q := hs t ht (fun y h4 => R (some y) h4) r
  split at q
  · exact iteT (B := R none h) q
  · exact q.elim
end TL

/-! TLX: own errors: raised, caught, asked. -/
namespace TL
open PySem L2

section
variable {K : PySem.W.Frag} {S : Fz} {H : Hp}
theorem RepF.look : ∀ {fs : List (Str × V)} {gs : List (Str × T)} {f : Str} {t : T}, RepF K S H fs gs → gs.lookup f = some t → ∃ v, fs.lookup f = some v ∧ Rep K S H v t
  | _, _, _, _, .nil, e => by cases e
  | _, _, f, t, .cons (f := g) (v := v) (vs := vs) (t := u) (ts := ts) r q, e => by
    rw [List.lookup_cons] at e ⊢
    cases z : f == g with
    | true => rw [z] at e; cases e; exact ⟨v, rfl, r⟩
    | false => rw [z] at e; exact RepF.look q e
theorem RepS.unset {σ : L2.St} {s : Sl} (r : RepS K S H σ s) (i : Nat) : RepS K S H (σ.set i none) (s.set i none) := ⟨by simp [r.len], fun j u e => by
  by_cases c : i = j
  · subst c
    have hl : i < s.length := by
      have := (List.getElem?_eq_some_iff.mp e).1
      simpa using this
    rw [List.getElem?_set_self hl] at e
    cases e
  · rw [List.getElem?_set_ne c] at e
    obtain ⟨w, h1, h2⟩ := r.at_ j u e
    exact ⟨w, by rw [List.getElem?_set_ne c]; exact h1, h2⟩⟩
theorem RepX.rep {cls : Value} {d : Option Addr} {x : Ex} (r : RepX K S H cls d x) (a : Addr) : Rep K S H (.ref a) (.exc a x.cls d x.fs) := by
  obtain ⟨_, ⟨e1, e2⟩ | ⟨dd, fs, e1, e2, e3, e4⟩⟩ := r
  · rw [e1, e2]; exact .exc0
  · rw [e1]; exact .exc e2 e3 e4
end

/-! ### __init__(self, y): self.f = y -/
def spInit (C : Addr) (f : Str) : Sp := fun vs H Q _ => ∃ a y, vs = [.ref a, y] ∧ H a = some (exo a C none) ∧ ∀ dx, H dx = none → dx ≠ a → Q .non (upd (upd H dx (exd dx [(f, y)])) a (exo a C (some dx)))
theorem init_ok {P : Program} {w : World} {K : PySem.W.Frag} {mg : Str → Option Value} {base : Heap} {qual : Str} {st : Stmt} {fI C : Addr} {fd : FuncData} {y f : Str} {p1 p2 p3 p4 : Pos} (F : Fun K "__init__" qual st fI fd) (sc : FnScope ["self", y] ["self", y] (defScope st)) (T : OexC K C) (hno : PySem.W.findIn K (.ref C) f = some none)
    (hb : defBody st = [.Assign [.Attribute (.Name "self" p1) f p2] (.Name y p3) p4])
    (h0 : Vis (defScope st) "self") (h1 : Vis (defScope st) y) (hd : (y == ("__debug__" : Str)) = false) (hcd : (y == ("__classdict__" : Str)) = false)
    (hs : ∀ env, env.scope = defScope st → swapsWith (.Name y p3) (some (.Attribute (.Name "self" p1) f p2)) p4.line env = pure false) : FnOk P w K mg base (L2.CX P w) 1 fI fd ["self", y] (spInit C f) := by
  refine F.okX (k := 0) sc (fun vs H Q E ⟨a, v, e, _⟩ => by rw [e]; rfl) fun cdv A outer s H vs Q E hr ⟨a, v, e, ha, q⟩ => ⟨_, by rw [hb]; exact pss_one (ps_ost (pe_var (i := 0) rfl h0) (pe_var (i := 1) rfl h1 hd hcd) (hs _ rfl)), ?_⟩
  subst e
  refine ⟨v, rfl, .ref a, rfl, a, C, rfl, T, hno, .inl ⟨ha, fun dx n ne => q dx n ne⟩⟩

/-! ### raise C(e) -/
def sRaise (C : Addr) (f : Str) (a : AM) : SM := fun D s h => a s h (fun ts h1 => match ts with
  | [t] => D.ex ⟨.ref C, [(f, t)]⟩ s h1
  | _ => False) D.ex
section
variable {X : Cx} {W : WX}
theorem noPass {P : Program} {w : World} : Passes (L2.CX P w) X (fun _ _ _ => False) := fun pins σ H s e s' I c => by
  obtain ⟨_, _, _, _, _, _, _, _, _, _, _, _, z⟩ := c
  exact z.elim
theorem js_raise {x f y : Str} {C fI : Addr} {fd : FuncData} {e : Expr} {es : List Expr} {a : AM} {p pos pos' : Pos} (T : OexC X.K C) (iC : PySem.W.findIn X.K (.ref C) "__init__" = some (some (.ref fI))) (tI : PySem.W.typeIn X.K (.ref fI) = some (.type "function"))
    (F1 : FnOk X.prog X.w X.K X.mg X.base (L2.CX X.prog X.w) 1 fI fd ["self", y] (spInit C f)) (hb : Binds X.K fd ["self", y] []) (hr : Room 2 X.A) (hc : X.calm = true) (tk : Takes X W) (hg : Gl X x) (hm : X.mg x = some (.ref C)) (ha : JA X W (e :: es) a)
    (hdb : (x == ("__debug__" : Str)) = false := by decide) (he : starEach (e :: es) X.env = (false, eval e X.env) :: starEach es X.env := by rfl) (hpl : (backTo pos (starEach es X.env)).any (·.1) = false := by rfl) :
    JS X W (.Raise (some (.Call (.Name x p) (e :: es) [] pos)) none pos') (sRaise C f a) := PS.wk (ps_raise hc tk (pmk_oex T iC tI F1 hr hb .nil noPass hg hm ha hdb he hpl)) fun D' σ H ⟨S, h, s, D, m, rs, lk, hm⟩ => by
  refine ⟨S, h, s, _, D.ex, m, rs, lk.ex, hm, fun S1 H1 h1 vs ts f1 m1 r1 q1 => ?_⟩
  split at q1
  · cases r1 with
    | @cons v _ t _ r rn =>
      cases rn
      refine ⟨by simp, fun a na => ⟨a, v, rfl, upd_same, fun dx ndx ne => ⟨rfl, dx, [(f, v)], upd_same, ?_, ?_, ?_⟩⟩⟩
      · rw [upd_ne ne, upd_same]
      · rw [upd_ne ne] at ndx; exact ndx
      · rw [upd_ne ne] at ndx
        have e1 : upd (L2.del (upd (upd (upd H1 a (exo a C none)) dx (exd dx [(f, v)])) a (exo a C (some dx))) a) dx (.xd [(f, v)]) = upd H1 dx (.xd [(f, v)]) := by
          funext b
          by_cases c : b = dx
          · rw [c, upd_same, upd_same]
          · rw [upd_ne c, upd_ne c]
            by_cases c2 : b = a
            · rw [c2, L2.del_same, na]
            · rw [L2.del_ne c2, upd_ne c2, upd_ne c, upd_ne c2]
        rw [e1]
        obtain ⟨m2, f2⟩ := m1.frozen (u := .xd [(f, v)]) ndx
        exact lk.ex _ _ h1 σ s ⟨.ref C, [(f, _)]⟩ _ _ (f1.trans f2) m2 (rs.fut (f1.trans f2)) ⟨rfl, .inr ⟨dx, [(f, v)], rfl, .inr rfl, upd_same, .cons (r.fut f2) .nil⟩⟩ q1
  · exact q1.elim

/-! ### try: .. except c as e: .. -/
def exTry (K : PySem.W.Frag) (c : Value) (i : Nat) (ms : Addr → Value → Option Addr → SM) (D : En) : EX := fun x s1 h1 => ∃ ok, PySem.W.exmOne K x.cls c = some ok ∧ (ok = true → ∀ a d, h1 a = none → ms a x.cls d { nx := fun s' h' => D.nx (s'.set i none) h', rt := D.rt, bk := fun s' h' => D.bk (s'.set i none) h', ct := fun s' h' => D.ct (s'.set i none) h' } (s1.set i (some (.exc a x.cls d x.fs))) h1) ∧ (ok = false → D.ex x s1 h1)
def sTry (K : PySem.W.Frag) (c : Value) (i : Nat) (b : SM) (ms : Addr → Value → Option Addr → SM) : SM := fun D s h => b { nx := D.nx, rt := D.rt, bk := D.bk, ct := D.ct, ex := exTry K c i ms D } s h
theorem js_try {x n : Str} {c : Value} {i : Nat} {body suite : List Stmt} {b₀ : Stmt} {np pos pos' : Pos} {mb : SM} {ms : Addr → Value → Option Addr → SM} (hs : X.stack = X.env :: X.outer) (hf : X.env.frame = some X.env.locals) (hN : X.N.Nodup) (hi : X.N[i]? = some n) (hln : X.env.kindOf n = some .local) (hc : Names X x c) (tk : Takes X W)
    (hb : ∀ (W : WX) (pn : List (Addr × Obj)) (xe : Value → Shared → Prop), Takes (X.tr pn xe) W → PassesOwn (model X.prog X.w) X.A X.env xe → JSs (X.tr pn xe) W body mb)
    (hsu : ∀ (a : Addr) (oe : Obj) (cls : Value) (d : Option Addr) (pn : List (Addr × Obj)), Zc cls d oe → (∃ vs, oe.data = .fields vs) → JSs (X.suite a ((a, oe) :: pn)) W0 (b₀ :: suite) (ms a cls d)) :
    JS X W (.Try body [.ExceptHandler (some (.Name x np)) (some n) (b₀ :: suite) pos'] [] [] pos) (sTry X.K c i mb ms) := PS.wk (ps_try_as (tb := fun W => liftS X.K W mb) (ts := fun a cls d => liftS X.K W0 (ms a cls d)) hs hf hN hi hln hc tk hb hsu) fun D' σ H ⟨S, h, s, D, m, rs, lk, hm⟩ => by
  refine ⟨S, h, s, { nx := D.nx, rt := D.rt, bk := D.bk, ct := D.ct, ex := exTry X.K c i ms D }, m, rs, ⟨lk.nx, lk.rt, lk.bk, lk.ct, fun S1 H1 h1 σ1 s1 x cls d f1 m1 r1 rx ⟨ok, e, yes, no⟩ => ?_⟩, hm⟩
  obtain ⟨ec, _⟩ := id rx
  refine ⟨ok, by rw [ec]; exact e, fun eo a na => ?_, fun eo => lk.ex S1 H1 h1 σ1 s1 x cls d f1 m1 r1 rx (no eo)⟩
  have q := yes eo a d (m1.free na)
  rw [ec]
  refine ⟨S1, h1, _, _, m1, r1.set (rx.rep a) i, ?_, q⟩
  exact { nx := fun S2 H2 h2 σ2 s2 f2 m2 r2 q2 => lk.nx S2 H2 h2 _ _ (f1.trans f2) m2 (r2.unset i) q2, rt := fun S2 H2 h2 v u f2 m2 r2 q2 => lk.rt S2 H2 h2 _ _ (f1.trans f2) m2 r2 q2, bk := fun S2 H2 h2 σ2 s2 f2 m2 r2 q2 => lk.bk S2 H2 h2 _ _ (f1.trans f2) m2 (r2.unset i) q2, ct := fun S2 H2 h2 σ2 s2 f2 m2 r2 q2 => lk.ct S2 H2 h2 _ _ (f1.trans f2) m2 (r2.unset i) q2, ex := fun _ _ _ _ _ _ _ _ _ _ _ _ z => z.elim }

/-! ### in the suite: e.f, isinstance(e, C) -/
variable {a : Addr} {oe : Obj} {cls : Value} {d : Option Addr} {pn : List (Addr × Obj)}
def eXf (K : PySem.W.Frag) (a : Addr) (cls : Value) (d : Option Addr) (f : Str) (m : EM) : EM := fun s h Q E => ∃ C, XfC K C ∧ PySem.W.findIn K (.ref C) f = some none ∧ cls = .ref C ∧ m s h (fun x h1 => match x with
  | .exc a' _ d' gs => a' = a ∧ d' = d ∧ match gs.lookup f with
    | some t => Q t h1
    | none => False
  | _ => False) E
theorem j_xf {e : Expr} {m : EM} {pos : Pos} {f : Str} (hz : Zc cls d oe) (hf : ∃ vs, oe.data = .fields vs) (he : JE (X.suite a ((a, oe) :: pn)) W e m) (hb : attributeBase e f X.env (eval e X.env) = eval e X.env := by rfl) :
    JE (X.suite a ((a, oe) :: pn)) W (.Attribute e f pos) (eXf X.K a cls d f m) := ⟨fun pins s σ H Q' I ⟨S, h, s', Q, E, mm, rs, lk, ⟨C, hX, hno, hC, hm⟩, pk⟩ => (pe_xf hX hno hz hf he hb).run pins s σ H Q' I
  ⟨S, h, s', _, E, mm, rs, lk, hm, fun S1 H1 h1 v x f1 m1 r1 q1 => by
    cases r1 with
    | exc s1 e1 rf =>
      obtain ⟨q1, q2, q3⟩ := q1
      subst q1
      split at q3
      · rename_i t et
        obtain ⟨v, ev, rv⟩ := rf.look et
        exact ⟨rfl, hC, _, _, v, q2.symm, e1, ev, pk S1 H1 h1 _ _ f1 m1 rv q3⟩
      · exact q3.elim
    | exc0 =>
      obtain ⟨q1, q2, q3⟩ := q1
      exact q3.elim
    | _ => exact q1.elim⟩⟩
def rIs2 (K : PySem.W.Frag) (a : Addr) (cls : Value) (d : Option Addr) : List V → Hp → VK → Prop := fun xs H Q => ∃ (c D : Addr) (b : Bool), xs = [.ref a, .ref c] ∧ cls = .ref D ∧ ExcC K D ∧ PySem.W.kitOne K (.ref D) (.ref c) = some b ∧ (d = none ∨ ∃ dd fs, d = some dd ∧ H dd = some (.xd fs)) ∧ Q (.bl b) H
theorem call_is2 (hz : Zc cls d oe) (hf : ∃ vs, oe.data = .fields vs) : CallR (X.suite a ((a, oe) :: pn)) (.builtin "isinstance") (rIs2 X.K a cls d) := by
  intro pins s σ H xs us Q I r h
  obtain ⟨c, D, b, rfl, rfl, C, e, hd, q⟩ := h
  cases r with
  | cons rx rr =>
    cases rr with
    | cons rt rr =>
      cases rr
      cases rx
      cases rt
      obtain ⟨hget, _⟩ := I.pin (a, oe) (List.mem_append.mpr (.inl List.mem_cons_self))
      obtain ⟨vs, hv⟩ := hf
      have J : ∃ od, PySem.W.InstAt s.heap a oe D od := by
        obtain ⟨oc, od, oda, osl⟩ := oe
        obtain ⟨h1, h2⟩ := hz
        dsimp only at h1 h2 hv
        subst h1 h2 hv
        rcases hd with rfl | ⟨dd, fs, rfl, e2⟩
        · exact ⟨none, hget, rfl, rfl, trivial⟩
        · have hx : ObjOk X.prog X.w H s.heap dd (.xd fs) := I.hok dd _ e2
          obtain ⟨mA, hns, hr⟩ := hx
          obtain ⟨od, ho, hl⟩ := lookIn_ns hns
          exact ⟨some od, hget, rfl, rfl, ho⟩
      obtain ⟨od, J⟩ := J
      have hcl : (PySem.W.clsIn X.K D).isSome = true := by
        obtain ⟨cd, hc, _⟩ := PySem.W.any_some C.hd
        rw [hc]; rfl
      exact PySem.W.kia_one (PySem.W.kitx_exc hcl C.hg C.hk C.hs C.ha C.hn C.ht C.hm) I.kIn J e (fun z => nomatch z) fun tk => ⟨.bl b, H, I.kept (t' := tk) fun _ _ z => z, rfl, q⟩
def oIsE (K : PySem.W.Frag) (a : Addr) (cls : Value) (d : Option Addr) : RLT := fun xs h Q => match xs with
  | [.exc a' _ d' _, .ref c] => a' = a ∧ d' = d ∧ ∃ D b, cls = .ref D ∧ ExcC K D ∧ PySem.W.kitOne K (.ref D) (.ref c) = some b ∧ Q (.bl b) h
  | _ => False
theorem c_isE {K : PySem.W.Frag} : CP K (rIs2 K a cls d) (oIsE K a cls d) := fun S H h vs xs Q Q' m r q pk => by
  unfold oIsE at q
  split at q
  · obtain ⟨rfl, rfl, D, b, hC, C, e, q⟩ := q
    cases r with
    | cons r1 r =>
      cases r with
      | cons r2 r =>
        cases r
        cases r2
        cases r1 with
        | exc s1 e1 _ => exact ⟨_, D, b, rfl, hC, C, e, .inr ⟨_, _, rfl, e1⟩, pk S H h _ _ Fut.refl m (.bl b) q⟩
        | exc0 => exact ⟨_, D, b, rfl, hC, C, e, .inl rfl, pk S H h _ _ Fut.refl m (.bl b) q⟩
  · exact q.elim
theorem names_own {x : Str} {c : Addr} (hg : Gl X x) (hm : X.mg x = some (.ref c)) (hdb : (x == ("__debug__" : Str)) = false := by decide) : Names X x (.ref c) := ⟨hg, hdb, .inl hm⟩
end
end TL

/-! Orders with the most groups: the greedy order. Plain Lean. -/
namespace GM
/-- how often an entry is another than the one before -/
def changes : Option Nat → List Nat → Nat
  | _, [] => 0
  | p, x :: xs => (if some x = p then 0 else 1) + changes (some x) xs
def pickStep (left : List Int) (last best : Option Nat) (i : Nat) : Option Nat :=
  if some i ≠ last ∧ left.getD i 0 > 0 ∧ (best = none ∨ left.getD i 0 > left.getD (best.getD 0) 0) then some i else best
def pickTo (left : List Int) (last : Option Nat) : Nat → Option Nat
  | 0 => none
  | n + 1 => pickStep left last (pickTo left last n) n
def pick (left : List Int) (last : Option Nat) : Option Nat := pickTo left last left.length
def nextOf (left : List Int) (last : Option Nat) : Option Nat := match pick left last with
  | some i => some i
  | none => last
def dec (left : List Int) (i : Nat) : List Int := left.set i (left.getD i 0 - 1)
def go : Nat → List Int → Option Nat → List Nat
  | 0, _, _ => []
  | n + 1, left, last => match nextOf left last with
    | some i => i :: go n (dec left i) (some i)
    | none => []
def order (cs : List Int) : List Nat := go cs.sum.toNat cs none

def pos (l : List Int) : Prop := ∀ x ∈ l, 0 ≤ x
theorem pos_getD {l : List Int} (h : pos l) (i : Nat) : 0 ≤ l.getD i 0 := by
  rw [List.getD_eq_getElem?_getD]
  cases e : l[i]? with
  | none => simp
  | some x => exact h x (List.mem_of_getElem? e)
theorem sum_pos : ∀ {l : List Int}, pos l → 0 ≤ l.sum
  | [], _ => by simp
  | x :: xs, h => by
    have h1 := h x List.mem_cons_self
    have h2 := sum_pos (l := xs) fun y hy => h y (List.mem_cons_of_mem _ hy)
    rw [List.sum_cons]; omega
theorem getD_le_sum : ∀ {l : List Int} (i : Nat), pos l → l.getD i 0 ≤ l.sum
  | [], i, _ => by simp
  | x :: xs, 0, h => by
    have h2 := sum_pos (l := xs) fun y hy => h y (List.mem_cons_of_mem _ hy)
    show x ≤ (x :: xs).sum
    rw [List.sum_cons]; omega
  | x :: xs, i + 1, h => by
    have h1 := h x List.mem_cons_self
    have h2 := getD_le_sum (l := xs) i fun y hy => h y (List.mem_cons_of_mem _ hy)
    show xs.getD i 0 ≤ (x :: xs).sum
    rw [List.sum_cons]; omega
theorem two_le_sum : ∀ {l : List Int} (i j : Nat), pos l → i ≠ j → l.getD i 0 + l.getD j 0 ≤ l.sum
  | [], i, j, _, _ => by simp
  | x :: xs, 0, 0, _, h => absurd rfl h
  | x :: xs, 0, j + 1, h, _ => by
    have h2 := getD_le_sum (l := xs) j fun y hy => h y (List.mem_cons_of_mem _ hy)
    show x + xs.getD j 0 ≤ (x :: xs).sum
    rw [List.sum_cons]; omega
  | x :: xs, i + 1, 0, h, _ => by
    have h2 := getD_le_sum (l := xs) i fun y hy => h y (List.mem_cons_of_mem _ hy)
    show xs.getD i 0 + x ≤ (x :: xs).sum
    rw [List.sum_cons]; omega
  | x :: xs, i + 1, j + 1, h, d => by
    have h1 := h x List.mem_cons_self
    have h2 := two_le_sum (l := xs) i j (fun y hy => h y (List.mem_cons_of_mem _ hy)) (fun e => d (by rw [e]))
    show xs.getD i 0 + xs.getD j 0 ≤ (x :: xs).sum
    rw [List.sum_cons]; omega
theorem sum_set : ∀ {l : List Int} {i : Nat} (v : Int), i < l.length → (l.set i v).sum = l.sum - l.getD i 0 + v
  | [], i, v, h => by simp at h
  | x :: xs, 0, v, _ => by
    show (v :: xs).sum = (x :: xs).sum - x + v
    rw [List.sum_cons, List.sum_cons]; omega
  | x :: xs, i + 1, v, h => by
    have h2 := sum_set (l := xs) (i := i) v (by simpa using h)
    show (x :: xs.set i v).sum = (x :: xs).sum - xs.getD i 0 + v
    rw [List.sum_cons, List.sum_cons, h2]; omega
theorem getD_set {l : List Int} {i j : Nat} {v : Int} (h : i < l.length) : (l.set i v).getD j 0 = if i = j then v else l.getD j 0 := by
  rw [List.getD_eq_getElem?_getD, List.getD_eq_getElem?_getD, List.getElem?_set]
  by_cases c : i = j
  · subst c; simp [h]
  · simp [c]
theorem exists_pos : ∀ {l : List Int}, pos l → 0 < l.sum → ∃ i, i < l.length ∧ 0 < l.getD i 0
  | [], _, h => by simp at h
  | x :: xs, hp, h => by
    by_cases c : 0 < x
    · exact ⟨0, by simp, c⟩
    · have h1 := hp x List.mem_cons_self
      rw [List.sum_cons] at h
      obtain ⟨i, a, b⟩ := exists_pos (l := xs) (fun y hy => hp y (List.mem_cons_of_mem _ hy)) (by omega)
      exact ⟨i + 1, by simpa using a, b⟩
theorem getD_out {l : List Int} {i : Nat} (h : l.length ≤ i) : l.getD i 0 = 0 := by
  rw [List.getD_eq_getElem?_getD, List.getElem?_eq_none_iff.mpr h]; rfl

/-! ### what pick finds -/
theorem pickTo_spec (left : List Int) (last : Option Nat) : ∀ n,
    (pickTo left last n = none → ∀ i, i < n → some i ≠ last → left.getD i 0 ≤ 0) ∧
    (∀ b, pickTo left last n = some b → b < n ∧ some b ≠ last ∧ 0 < left.getD b 0 ∧ ∀ i, i < n → some i ≠ last → left.getD i 0 ≤ left.getD b 0)
  | 0 => ⟨fun _ i h => absurd h (Nat.not_lt_zero _), fun b h => by cases h⟩
  | n + 1 => by
    obtain ⟨ih1, ih2⟩ := pickTo_spec left last n
    show (pickStep left last (pickTo left last n) n = none → _) ∧ _
    unfold pickStep
    by_cases c : some n ≠ last ∧ left.getD n 0 > 0 ∧ (pickTo left last n = none ∨ left.getD n 0 > left.getD ((pickTo left last n).getD 0) 0)
    · refine ⟨fun h => ?_, fun b h => ?_⟩
      · rw [if_pos c] at h; cases h
      · have hb : b = n := by
          have : pickTo left last (n + 1) = some n := by show pickStep _ _ _ _ = _; unfold pickStep; rw [if_pos c]
          rw [this] at h; exact (Option.some.inj h).symm
        subst hb
        refine ⟨Nat.lt_succ_self _, c.1, c.2.1, fun i hi hl => ?_⟩
        by_cases e : i = b
        · rw [e]; exact Int.le_refl _
        · have hi' : i < b := by omega
          cases z : pickTo left last b with
          | none => have := ih1 z i hi' hl; have := c.2.1; omega
          | some q =>
            have h1 := (ih2 q z).2.2.2 i hi' hl
            rcases c.2.2 with w | w
            · rw [z] at w; cases w
            · rw [z] at w
              have w' : left.getD b 0 > left.getD q 0 := w
              omega
    · have e : pickTo left last (n + 1) = pickTo left last n := by show pickStep _ _ _ _ = _; unfold pickStep; rw [if_neg c]
      refine ⟨fun h => ?_, fun b h => ?_⟩
      · rw [if_neg c] at h
        intro i hi hl
        by_cases e' : i = n
        · subst e'
          refine Int.not_lt.mp fun p => c ⟨hl, p, .inl h⟩
        · exact ih1 h i (by omega) hl
      · rw [e] at h
        obtain ⟨a1, a2, a3, a4⟩ := ih2 b h
        refine ⟨by omega, a2, a3, fun i hi hl => ?_⟩
        by_cases e' : i = n
        · subst e'
          refine Int.not_lt.mp fun p => c ⟨hl, by omega, .inr ?_⟩
          rw [h]
          exact p
        · exact a4 i (by omega) hl
theorem pick_none {left : List Int} {last : Option Nat} (h : pick left last = none) (i : Nat) (hl : some i ≠ last) : left.getD i 0 ≤ 0 := by
  by_cases c : i < left.length
  · exact (pickTo_spec left last left.length).1 h i c hl
  · rw [getD_out (by omega)]; exact Int.le_refl _
theorem pick_some {left : List Int} {last : Option Nat} {b : Nat} (h : pick left last = some b) : b < left.length ∧ some b ≠ last ∧ 0 < left.getD b 0 ∧ ∀ i, some i ≠ last → left.getD i 0 ≤ left.getD b 0 := by
  obtain ⟨a1, a2, a3, a4⟩ := (pickTo_spec left last left.length).2 b h
  refine ⟨a1, a2, a3, fun i hl => ?_⟩
  by_cases c : i < left.length
  · exact a4 i c hl
  · rw [getD_out (by omega)]; omega
/-- as long as something is left, something that is left is taken -/
theorem next_ok {left : List Int} {last : Option Nat} (hp : pos left) (hs : 0 < left.sum) : ∃ i, nextOf left last = some i ∧ i < left.length ∧ 0 < left.getD i 0 := by
  unfold nextOf
  cases e : pick left last with
  | some b => exact ⟨b, rfl, (pick_some e).1, (pick_some e).2.2.1⟩
  | none =>
    obtain ⟨i, h1, h2⟩ := exists_pos hp hs
    by_cases c : some i = last
    · exact ⟨i, by rw [c], h1, h2⟩
    · have := pick_none e i c; omega
theorem dec_pos {left : List Int} {i : Nat} (hp : pos left) (h : 0 < left.getD i 0) : pos (dec left i) := by
  intro x hx
  unfold dec at hx
  rcases List.mem_or_eq_of_mem_set hx with h1 | h1
  · exact hp x h1
  · omega
theorem dec_sum {left : List Int} {i : Nat} (h : i < left.length) : (dec left i).sum = left.sum - 1 := by
  unfold dec; rw [sum_set _ h]; omega
theorem dec_getD {left : List Int} {i j : Nat} (h : i < left.length) : (dec left i).getD j 0 = if i = j then left.getD j 0 - 1 else left.getD j 0 := by
  unfold dec
  rw [getD_set h]
  by_cases c : i = j
  · subst c; simp
  · rw [if_neg c, if_neg c]
theorem dec_length {left : List Int} {i : Nat} : (dec left i).length = left.length := by unfold dec; rw [List.length_set]

/-! ### how often each index stands -/
theorem go_count : ∀ (n : Nat) (left : List Int) (last : Option Nat), pos left → left.sum = n → ∀ j, (((go n left last).count j : Nat) : Int) = left.getD j 0
  | 0, left, last, hp, hs, j => by
    have h1 := getD_le_sum j hp
    have h2 := pos_getD hp j
    show ((0 : Nat) : Int) = _
    omega
  | n + 1, left, last, hp, hs, j => by
    obtain ⟨i, e, hi, h0⟩ := next_ok (last := last) hp (by omega)
    have ih := go_count n (dec left i) (some i) (dec_pos hp h0) (by rw [dec_sum hi]; omega) j
    have e2 : go (n + 1) left last = i :: go n (dec left i) (some i) := by show (match nextOf left last with | some i => _ | none => _) = _; rw [e]
    rw [e2, List.count_cons]
    rw [dec_getD hi] at ih
    by_cases c : i = j
    · subst c; simp at ih ⊢; omega
    · have c' : (i == j) = false := by simpa using c
      rw [if_neg c] at ih
      rw [c']
      simpa using ih
theorem go_length : ∀ (n : Nat) (left : List Int) (last : Option Nat), pos left → left.sum = n → (go n left last).length = n
  | 0, left, last, hp, hs => rfl
  | n + 1, left, last, hp, hs => by
    obtain ⟨i, e, hi, h0⟩ := next_ok (last := last) hp (by omega)
    have ih := go_length n (dec left i) (some i) (dec_pos hp h0) (by rw [dec_sum hi]; omega)
    have e2 : go (n + 1) left last = i :: go n (dec left i) (some i) := by show (match nextOf left last with | some i => _ | none => _) = _; rw [e]
    rw [e2, List.length_cons, ih]
theorem go_lt : ∀ (n : Nat) (left : List Int) (last : Option Nat), pos left → left.sum = n → ∀ x ∈ go n left last, x < left.length
  | 0, left, last, hp, hs, x, hx => by cases hx
  | n + 1, left, last, hp, hs, x, hx => by
    obtain ⟨i, e, hi, h0⟩ := next_ok (last := last) hp (by omega)
    have e2 : go (n + 1) left last = i :: go n (dec left i) (some i) := by show (match nextOf left last with | some i => _ | none => _) = _; rw [e]
    rw [e2] at hx
    rcases List.mem_cons.mp hx with z | z
    · rw [z]; exact hi
    · have := go_lt n (dec left i) (some i) (dec_pos hp h0) (by rw [dec_sum hi]; omega) x z
      rw [dec_length] at this; exact this

/-! ### how many groups -/
/-- every entry can be another than the one before -/
def Free (left : List Int) (last : Option Nat) : Prop := ∀ i, (some i ≠ last → 2 * left.getD i 0 ≤ left.sum + 1) ∧ (some i = last → 2 * left.getD i 0 ≤ left.sum)
theorem go_free : ∀ (n : Nat) (left : List Int) (last : Option Nat), pos left → left.sum = n → Free left last → changes last (go n left last) = n
  | 0, left, last, hp, hs, hf => rfl
  | n + 1, left, last, hp, hs, hf => by
    have hs0 : 0 < left.sum := by omega
    have hpk : ∃ b, pick left last = some b := by
      cases e : pick left last with
      | some b => exact ⟨b, rfl⟩
      | none =>
        obtain ⟨i, h1, h2⟩ := exists_pos hp hs0
        by_cases c : some i = last
        · have h3 := (hf i).2 c
          -- another one is left
          have : ∃ j, j ≠ i ∧ 0 < left.getD j 0 := by
            refine Classical.byContradiction fun q => ?_
            have hz : ∀ j, j ≠ i → left.getD j 0 = 0 := fun j hj => by
              have h4 := pos_getD hp j
              have h5 : ¬ 0 < left.getD j 0 := fun w => q ⟨j, hj, w⟩
              omega
            have hsum := sum_set (l := left) 0 h1
            have hz2 : ∀ j, (left.set i 0).getD j 0 = 0 := fun j => by
              rw [getD_set h1]
              by_cases c : i = j
              · rw [if_pos c]
              · rw [if_neg c]; exact hz j (fun w => c w.symm)
            have hp2 : pos (left.set i 0) := fun x hx => by
              rcases List.mem_or_eq_of_mem_set hx with w | w
              · exact hp x w
              · omega
            have : (left.set i 0).sum ≤ 0 := Int.not_lt.mp fun w => by
              obtain ⟨k, _, k2⟩ := exists_pos hp2 w
              rw [hz2 k] at k2; omega
            omega
          obtain ⟨j, h4, h5⟩ := this
          have := pick_none e j (fun w => h4 (by rw [← c] at w; exact Option.some.inj w))
          omega
        · have := pick_none e i c; omega
    obtain ⟨b, e⟩ := hpk
    obtain ⟨p1, p2, p3, p4⟩ := pick_some e
    have e2 : go (n + 1) left last = b :: go n (dec left b) (some b) := by show (match nextOf left last with | some i => _ | none => _) = _; unfold nextOf; rw [e]
    have ds := dec_sum p1
    rw [e2]
    show (if some b = last then 0 else 1) + changes (some b) (go n (dec left b) (some b)) = n + 1
    rw [if_neg p2, go_free n (dec left b) (some b) (dec_pos hp p3) (by omega) fun j => ?_]
    · omega
    · rw [dec_getD p1, ds]
      refine ⟨fun hj => ?_, fun hj => ?_⟩
      · have hne : b ≠ j := fun w => hj (by rw [w])
        rw [if_neg hne]
        by_cases c : some j = last
        · have := (hf j).2 c; omega
        · have h1 := p4 j c
          have h2 := two_le_sum b j hp hne
          omega
      · have : b = j := (Option.some.inj hj).symm
        subst this
        rw [if_pos rfl]
        have := (hf b).1 p2
        omega
/-- one index stands more often than all others -/
theorem go_dom : ∀ (n : Nat) (left : List Int) (last : Option Nat) (m : Nat), pos left → left.sum = n →
    (some m ≠ last → 2 * left.getD m 0 ≥ left.sum + 1 → ((changes last (go n left last) : Nat) : Int) = 2 * (left.sum - left.getD m 0) + 1) ∧
    (some m = last → 2 * left.getD m 0 ≥ left.sum → ((changes last (go n left last) : Nat) : Int) = 2 * (left.sum - left.getD m 0))
  | 0, left, last, m, hp, hs => by
    have h1 := getD_le_sum m hp
    have h2 := pos_getD hp m
    refine ⟨fun _ q => by omega, fun _ q => ?_⟩
    show ((0 : Nat) : Int) = _
    omega
  | n + 1, left, last, m, hp, hs => by
    have hm0 := pos_getD hp m
    have hms := getD_le_sum m hp
    refine ⟨fun hl q => ?_, fun hl q => ?_⟩
    · -- m itself is taken
      have hpk : pick left last = some m := by
        cases e : pick left last with
        | none => have := pick_none e m hl; omega
        | some b =>
          obtain ⟨p1, p2, p3, p4⟩ := pick_some e
          by_cases c : b = m
          · rw [c]
          · have h1 := p4 m hl
            have h2 := two_le_sum b m hp c
            omega
      obtain ⟨p1, p2, p3, p4⟩ := pick_some hpk
      have e2 : go (n + 1) left last = m :: go n (dec left m) (some m) := by show (match nextOf left last with | some i => _ | none => _) = _; unfold nextOf; rw [hpk]
      have ds := dec_sum p1
      have ih := (go_dom n (dec left m) (some m) m (dec_pos hp p3) (by omega)).2 rfl
      rw [dec_getD p1, if_pos rfl, ds] at ih
      have ih' := ih (by omega)
      rw [e2]
      show (((if some m = last then 0 else 1) + changes (some m) (go n (dec left m) (some m)) : Nat) : Int) = _
      rw [if_neg hl]
      omega
    · cases e : pick left last with
      | some b =>
        obtain ⟨p1, p2, p3, p4⟩ := pick_some e
        have hne : b ≠ m := fun w => p2 (by rw [w]; exact hl)
        have e2 : go (n + 1) left last = b :: go n (dec left b) (some b) := by show (match nextOf left last with | some i => _ | none => _) = _; unfold nextOf; rw [e]
        have ds := dec_sum p1
        have ih := (go_dom n (dec left b) (some b) m (dec_pos hp p3) (by omega)).1 (fun w => hne (Option.some.inj w).symm)
        rw [dec_getD p1, if_neg hne, ds] at ih
        have ih' := ih (by omega)
        rw [e2]
        show (((if some b = last then 0 else 1) + changes (some b) (go n (dec left b) (some b)) : Nat) : Int) = _
        rw [if_neg p2]
        omega
      | none =>
        -- only m is left
        obtain ⟨i, h1, h2⟩ := exists_pos hp (show 0 < left.sum by omega)
        have him : i = m := by
          refine Classical.byContradiction fun w => ?_
          have := pick_none e i (fun z => w (by rw [← hl] at z; exact Option.some.inj z))
          omega
        subst him
        have e2 : go (n + 1) left last = i :: go n (dec left i) (some i) := by show (match nextOf left last with | some i => _ | none => _) = _; unfold nextOf; rw [e, ← hl]
        have ds := dec_sum h1
        have hall : left.sum = left.getD i 0 := by
          have hz : ∀ j, j ≠ i → left.getD j 0 = 0 := fun j hj => by
            have h4 := pos_getD hp j
            have h5 := pick_none e j (fun z => hj (by rw [← hl] at z; exact Option.some.inj z))
            omega
          have hsum := sum_set (l := left) 0 h1
          have hp2 : pos (left.set i 0) := fun x hx => by
            rcases List.mem_or_eq_of_mem_set hx with w | w
            · exact hp x w
            · omega
          have hn : (left.set i 0).sum ≤ 0 := Int.not_lt.mp fun w => by
            obtain ⟨k, _, k2⟩ := exists_pos hp2 w
            rw [getD_set h1] at k2
            by_cases c : i = k
            · rw [if_pos c] at k2; omega
            · rw [if_neg c, hz k (fun w => c w.symm)] at k2; omega
          have := sum_pos hp2
          omega
        have ih := (go_dom n (dec left i) (some i) i (dec_pos hp h2) (by omega)).2 rfl
        rw [dec_getD h1, if_pos rfl, ds] at ih
        have ih' := ih (by omega)
        rw [e2]
        show (((if some i = last then 0 else 1) + changes (some i) (go n (dec left i) (some i)) : Nat) : Int) = _
        rw [if_pos hl]
        omega
/-- the greedy order has the greatest number of groups -/
theorem order_groups {cs : List Int} (hp : pos cs) {m : Nat} (hm : ∀ i, cs.getD i 0 ≤ cs.getD m 0) :
    ((changes none (order cs) : Nat) : Int) = if cs.getD m 0 ≤ cs.sum - cs.getD m 0 + 1 then cs.sum else 2 * (cs.sum - cs.getD m 0) + 1 := by
  have h0 := sum_pos hp
  unfold order
  by_cases c : cs.getD m 0 ≤ cs.sum - cs.getD m 0 + 1
  · rw [if_pos c, go_free _ cs none hp (by omega) fun i => ⟨fun _ => by have := hm i; omega, fun q => nomatch q⟩]
    omega
  · rw [if_neg c]
    exact (go_dom _ cs none m hp (by omega)).1 (fun q => nomatch q) (by omega)
/-- no list has more -/
theorem changes_le_length : ∀ (p : Option Nat) (xs : List Nat), changes p xs ≤ xs.length
  | _, [] => Nat.le_refl _
  | p, x :: xs => by
    have ih := changes_le_length (some x) xs
    show (if some x = p then 0 else 1) + _ ≤ xs.length + 1
    split <;> omega
theorem changes_le (m : Nat) : ∀ (p : Option Nat) (xs : List Nat), changes p xs ≤ 2 * (xs.length - xs.count m) + (if p = some m then 0 else 1)
  | _, [] => Nat.zero_le _
  | p, x :: xs => by
    have ih := changes_le m (some x) xs
    have hc := List.count_le_length (a := m) (l := xs)
    show (if some x = p then 0 else 1) + changes (some x) xs ≤ 2 * ((xs.length + 1) - (x :: xs).count m) + _
    rw [List.count_cons]
    by_cases c : x = m
    · subst c
      rw [if_pos rfl] at ih
      simp only [beq_self_eq_true, if_true]
      by_cases d : p = some x
      · subst d; simp; omega
      · rw [if_neg d, if_neg (fun w => d w.symm)]
        omega
    · have c1 : (x == m) = false := by simpa using c
      have c2 : ¬ some x = some m := fun w => c (Option.some.inj w)
      rw [if_neg c2] at ih
      rw [c1]
      simp only [Bool.false_eq_true, if_false]
      split <;> omega
theorem most_groups {cs : List Int} (hp : pos cs) {m : Nat} (hm : ∀ i, cs.getD i 0 ≤ cs.getD m 0) {xs : List Nat} (hl : (xs.length : Int) = cs.sum) (hc : ((xs.count m : Nat) : Int) = cs.getD m 0) : changes none xs ≤ changes none (order cs) := by
  have h1 := order_groups hp hm
  have h2 := changes_le_length none xs
  have h3 := changes_le m none xs
  have h4 := List.count_le_length (a := m) (l := xs)
  rw [if_neg (fun w => nomatch w)] at h3
  split at h1 <;> omega
end GM

/-! All orders, one entry after the other. Plain Lean. -/
namespace GM
def rowTo (r : List Nat) (l : List Int) (a : Nat) : List (List Nat × List Int) := (List.range a).filterMap fun k => if l.getD k 0 > 0 then some (r ++ [k], dec l k) else none
def ordStep (rows : List (List Nat × List Int)) : List (List Nat × List Int) := rows.flatMap fun x => rowTo x.1 x.2 x.2.length
def ordN (cs : List Int) : Nat → List (List Nat × List Int)
  | 0 => [([], cs)]
  | n + 1 => ordStep (ordN cs n)
def IsOrd (cs : List Int) (r : List Nat) : Prop := (r.length : Int) = cs.sum ∧ (∀ x ∈ r, x < cs.length) ∧ ∀ j, ((r.count j : Nat) : Int) = cs.getD j 0
theorem mem_rowTo {r : List Nat} {l : List Int} {a : Nat} {x : List Nat × List Int} : x ∈ rowTo r l a ↔ ∃ k, k < a ∧ l.getD k 0 > 0 ∧ x = (r ++ [k], dec l k) := by
  unfold rowTo
  rw [List.mem_filterMap]
  constructor
  · rintro ⟨k, hk, e⟩
    split at e
    · rename_i c; cases e; exact ⟨k, List.mem_range.mp hk, c, rfl⟩
    · cases e
  · rintro ⟨k, hk, c, rfl⟩
    exact ⟨k, List.mem_range.mpr hk, by rw [if_pos c]⟩
theorem mem_ordStep {rows : List (List Nat × List Int)} {x : List Nat × List Int} : x ∈ ordStep rows ↔ ∃ r l, (r, l) ∈ rows ∧ ∃ k, k < l.length ∧ l.getD k 0 > 0 ∧ x = (r ++ [k], dec l k) := by
  unfold ordStep
  rw [List.mem_flatMap]
  constructor
  · rintro ⟨⟨r, l⟩, h1, h2⟩; exact ⟨r, l, h1, mem_rowTo.mp h2⟩
  · rintro ⟨r, l, h1, h2⟩; exact ⟨(r, l), h1, mem_rowTo.mpr h2⟩
def Pre (cs : List Int) (n : Nat) (r : List Nat) (l : List Int) : Prop := r.length = n ∧ (∀ x ∈ r, x < cs.length) ∧ l.length = cs.length ∧ pos l ∧ ∀ j, l.getD j 0 = cs.getD j 0 - ((r.count j : Nat) : Int)
theorem ordN_pre {cs : List Int} (hp : pos cs) : ∀ (n : Nat) {r : List Nat} {l : List Int}, (r, l) ∈ ordN cs n → Pre cs n r l
  | 0, r, l, h => by
    have e : (r, l) = ([], cs) := by simpa [ordN] using h
    cases e
    exact ⟨rfl, (fun _ h => nomatch h), rfl, hp, fun j => by simp⟩
  | n + 1, r, l, h => by
    obtain ⟨r0, l0, h1, k, hk, h0, e⟩ := mem_ordStep.mp h
    cases e
    obtain ⟨a1, a2, a3, a4, a5⟩ := ordN_pre hp n h1
    refine ⟨by simp [a1], fun x hx => ?_, by rw [dec_length, a3], dec_pos a4 h0, fun j => ?_⟩
    · rcases List.mem_append.mp hx with z | z
      · exact a2 x z
      · have : x = k := by simpa using z
        omega
    · rw [dec_getD hk, a5 j, List.count_append, List.count_singleton]
      by_cases c : k = j
      · subst c; simp; omega
      · have c' : (k == j) = false := by simpa using c
        rw [if_neg c, c']; simp
theorem ordN_all {cs : List Int} (hp : pos cs) : ∀ (n : Nat) (r : List Nat), r.length = n → (∀ x ∈ r, x < cs.length) → (∀ j, ((r.count j : Nat) : Int) ≤ cs.getD j 0) → ∃ l, (r, l) ∈ ordN cs n
  | 0, r, hl, _, _ => by
    have : r = [] := List.eq_nil_of_length_eq_zero hl
    subst this
    exact ⟨cs, by simp [ordN]⟩
  | n + 1, r, hl, hx, hc => by
    have hne : r ≠ [] := fun e => by rw [e] at hl; simp at hl
    have e := List.dropLast_concat_getLast hne
    generalize r.getLast hne = k at e
    generalize r.dropLast = r0 at e
    subst e
    have hl0 : r0.length = n := by simpa using hl
    have hcount : ∀ j, (r0 ++ [k]).count j = r0.count j + if k = j then 1 else 0 := fun j => by
      rw [List.count_append, List.count_singleton]
      by_cases c : k = j
      · subst c; simp
      · have c' : (k == j) = false := by simpa using c
        rw [c', if_neg c]; simp
    obtain ⟨l, h⟩ := ordN_all hp n r0 hl0 (fun x hx' => hx x (List.mem_append_left _ hx')) fun j => by
      have := hc j
      rw [hcount j] at this
      split at this <;> omega
    obtain ⟨a1, a2, a3, a4, a5⟩ := ordN_pre hp n h
    refine ⟨dec l k, mem_ordStep.mpr ⟨r0, l, h, k, ?_, ?_, rfl⟩⟩
    · rw [a3]; exact hx k (List.mem_append_right _ (by simp))
    · have := hc k
      rw [hcount k, if_pos rfl] at this
      rw [a5 k]; omega
theorem sum_counts : ∀ {cs : List Int} {r : List Nat}, (∀ x ∈ r, x < cs.length) → (∀ j, ((r.count j : Nat) : Int) ≤ cs.getD j 0) → pos cs → (r.length : Int) = cs.sum → ∀ j, ((r.count j : Nat) : Int) = cs.getD j 0 := by
  intro cs r hx hc hp hl j
  -- what is left behind r is nothing
  obtain ⟨l, h⟩ := ordN_all hp r.length r rfl hx hc
  obtain ⟨a1, a2, a3, a4, a5⟩ := ordN_pre hp r.length h
  have hs : ∀ (n : Nat) {r : List Nat} {l : List Int}, (r, l) ∈ ordN cs n → l.sum = cs.sum - n := by
    intro n
    induction n with
    | zero => intro r l h; have e : (r, l) = ([], cs) := by simpa [ordN] using h
              cases e; simp
    | succ n ih =>
      intro r l h
      obtain ⟨r0, l0, h1, k, hk, h0, e⟩ := mem_ordStep.mp h
      cases e
      rw [dec_sum hk, ih h1]; omega
  have h0 := hs _ h
  have h1 := getD_le_sum j a4
  have h2 := pos_getD a4 j
  have h3 := a5 j
  omega
theorem ordN_iff {cs : List Int} (hp : pos cs) (r : List Nat) : r ∈ (ordN cs cs.sum.toNat).map Prod.fst ↔ IsOrd cs r := by
  have h0 := sum_pos hp
  constructor
  · intro h
    obtain ⟨⟨r', l⟩, h1, rfl⟩ := List.mem_map.mp h
    obtain ⟨a1, a2, a3, a4, a5⟩ := ordN_pre hp _ h1
    have hl : ((r'.length : Nat) : Int) = cs.sum := by omega
    refine ⟨hl, a2, sum_counts a2 (fun j => ?_) hp hl⟩
    have := pos_getD a4 j
    have := a5 j
    show ((r'.count j : Nat) : Int) ≤ _
    omega
  · rintro ⟨h1, h2, h3⟩
    obtain ⟨l, h⟩ := ordN_all hp cs.sum.toNat r (by omega) h2 fun j => by rw [h3 j]; exact Int.le_refl _
    exact List.mem_map.mpr ⟨_, h, rfl⟩
theorem rowTo_len {r : List Nat} {l : List Int} {a : Nat} : (rowTo r l a).length ≤ a := by
  unfold rowTo
  have := List.length_filterMap_le (fun k => if l.getD k 0 > 0 then some (r ++ [k], dec l k) else none) (List.range a)
  simpa using this
theorem ordStep_len {m : Nat} : ∀ {rows : List (List Nat × List Int)}, (∀ x ∈ rows, x.2.length ≤ m) → (ordStep rows).length ≤ m * rows.length
  | [], _ => by simp [ordStep]
  | x :: rows, h => by
    have h1 := ordStep_len (m := m) (rows := rows) fun y hy => h y (List.mem_cons_of_mem _ hy)
    have h2 := rowTo_len (r := x.1) (l := x.2) (a := x.2.length)
    have h3 := h x List.mem_cons_self
    have e : ordStep (x :: rows) = rowTo x.1 x.2 x.2.length ++ ordStep rows := by unfold ordStep; rw [List.flatMap_cons]
    rw [e, List.length_append, List.length_cons, Nat.mul_succ]
    omega
theorem ordN_len {cs : List Int} (hp : pos cs) (h4 : cs.length ≤ 4) : ∀ n, (ordN cs n).length ≤ 4 ^ n
  | 0 => by simp [ordN]
  | n + 1 => by
    have ih := ordN_len hp h4 n
    have := ordStep_len (m := 4) (rows := ordN cs n) fun x hx => by have := (ordN_pre hp n (r := x.1) (l := x.2) hx).2.2.1; omega
    show (ordStep (ordN cs n)).length ≤ _
    rw [Nat.pow_succ]
    omega
theorem order_isOrd {cs : List Int} (hp : pos cs) : IsOrd cs (order cs) := by
  have h0 := sum_pos hp
  unfold order
  refine ⟨by rw [go_length _ _ _ hp (by omega)]; omega, go_lt _ _ _ hp (by omega), go_count _ _ _ hp (by omega)⟩
/-- groups as they are counted by places -/
def grp (xs : List Nat) (k : Nat) : Bool := decide (k = 0) || decide (xs[k]? ≠ xs[k - 1]?)
def grpP (p : Option Nat) (xs : List Nat) (k : Nat) : Bool := match k with
  | 0 => decide (xs[0]? ≠ p)
  | k + 1 => decide (xs[k + 1]? ≠ xs[k]?)
theorem changes_count : ∀ (p : Option Nat) (xs : List Nat), ((List.range xs.length).filter (grpP p xs)).length = changes p xs
  | p, [] => rfl
  | p, x :: xs => by
    have ih := changes_count (some x) xs
    rw [List.length_cons, List.range_succ_eq_map, List.filter_cons]
    have e : ((List.range xs.length).map Nat.succ).filter (grpP p (x :: xs)) = ((List.range xs.length).filter (grpP (some x) xs)).map Nat.succ := by
      rw [List.filter_map]
      congr 1
      apply List.filter_congr
      intro k hk
      cases k with
      | zero => show decide ((x :: xs)[1]? ≠ (x :: xs)[0]?) = decide (xs[0]? ≠ some x); simp
      | succ k => show decide ((x :: xs)[k + 2]? ≠ (x :: xs)[k + 1]?) = decide (xs[k + 1]? ≠ xs[k]?); simp
    rw [e]
    show _ = (if some x = p then 0 else 1) + changes (some x) xs
    rw [← ih]
    have e0 : grpP p (x :: xs) 0 = decide (some x ≠ p) := rfl
    rw [e0]
    by_cases c : some x = p
    · rw [if_pos c, decide_eq_false (fun h => h c)]; simp
    · rw [if_neg c, decide_eq_true c]; simp; omega
theorem grp_count (xs : List Nat) : ((List.range xs.length).filter (grp xs)).length = changes none xs := by
  rw [← changes_count none xs]
  congr 1
  apply List.filter_congr
  intro k hk
  have hk' := List.mem_range.mp hk
  cases k with
  | zero =>
    show (decide (0 = 0) || _) = decide (xs[0]? ≠ none)
    rw [List.getElem?_eq_getElem hk']
    simp
  | succ k => show (decide (k + 1 = 0) || decide (xs[k + 1]? ≠ xs[k + 1 - 1]?)) = decide (xs[k + 1]? ≠ xs[k]?); simp
end GM

namespace TL
open PySem L2
def topS (i : Nat) : Stmt := PySem.Challenge.pw_grownfiles_k57_orders.main.body.getD i (.Pass ⟨0, 0, 0, 0⟩)
abbrev s_is_integer : Stmt := topS 5
abbrev N_is_integer : List Str := ["thing", "least", "most"]
abbrev s_check_sizes : Stmt := topS 9
abbrev N_check_sizes : List Str := ["sizes", "most", "number", "size"]
abbrev s_in_order : Stmt := topS 10
abbrev N_in_order : List Str := ["counts", "left", "count", "found", "last", "turn", "best", "number", "many"]
abbrev s_order_of : Stmt := topS 11
abbrev N_order_of : List Str := ["counts"]
abbrev s_law_hand : Stmt := topS 13
abbrev N_law_hand : List Str := ["_law_script", "_law_k", "_law_cell", "_law_seed"]
abbrev s_law_draw : Stmt := topS 14
abbrev N_law_draw : List Str := ["_law_pool", "_law_many", "_law_found"]
abbrev s_law_counts : Stmt := topS 15
abbrev N_law_counts : List Str := ["_law_pool", "_law_counts_here", "_law_turn", "_law_count"]
abbrev s_law_groups : Stmt := topS 16
abbrev N_law_groups : List Str := ["_law_found", "_law_at"]
abbrev s_law_refused : Stmt := topS 17
abbrev N_law_refused : List Str := ["_law_thing", "e"]
abbrev s_law : Stmt := topS 18
abbrev N_law : List Str := ["_law_script", "_law_k", "_law_pool", "_law_counts_here", "_law_handed", "_law_found", "_law_count", "_law_one", "_law_at", "_law_greatest", "_law_rest", "_law_bad", "_law_odd"]
abbrev si_InvalidSizes : Stmt := inClass (topS 3) 0
structure Ad where
  f_is_integer : Addr
  d_is_integer : FuncData
  f_check_sizes : Addr
  d_check_sizes : FuncData
  f_in_order : Addr
  d_in_order : FuncData
  f_order_of : Addr
  d_order_of : FuncData
  f_law_hand : Addr
  d_law_hand : FuncData
  f_law_draw : Addr
  d_law_draw : FuncData
  f_law_counts : Addr
  d_law_counts : FuncData
  f_law_groups : Addr
  d_law_groups : FuncData
  f_law_refused : Addr
  d_law_refused : FuncData
  f_law : Addr
  d_law : FuncData
  c_InvalidSizes : Addr
  c_GrowError : Addr
  c_InvalidNumber : Addr
  i_InvalidSizes : Addr
  e_InvalidSizes : FuncData
structure Tx (K : PySem.W.Frag) (mg : Str → Option Value) (a : Ad) : Prop where
  F_is_integer : Fun K "is_integer" "is_integer" s_is_integer a.f_is_integer a.d_is_integer
  b_is_integer : Binds K a.d_is_integer ["thing", "least", "most"] []
  g_is_integer : mg "is_integer" = some (.ref a.f_is_integer)
  F_check_sizes : Fun K "check_sizes" "check_sizes" s_check_sizes a.f_check_sizes a.d_check_sizes
  b_check_sizes : Binds K a.d_check_sizes ["sizes", "most"] []
  g_check_sizes : mg "check_sizes" = some (.ref a.f_check_sizes)
  F_in_order : Fun K "in_order" "in_order" s_in_order a.f_in_order a.d_in_order
  b_in_order : Binds K a.d_in_order ["counts"] []
  g_in_order : mg "in_order" = some (.ref a.f_in_order)
  F_order_of : Fun K "order_of" "order_of" s_order_of a.f_order_of a.d_order_of
  b_order_of : Binds K a.d_order_of ["counts"] []
  g_order_of : mg "order_of" = some (.ref a.f_order_of)
  F_law_hand : Fun K "_law_hand" "_law_hand" s_law_hand a.f_law_hand a.d_law_hand
  b_law_hand : Binds K a.d_law_hand ["_law_script", "_law_k"] []
  g_law_hand : mg "_law_hand" = some (.ref a.f_law_hand)
  F_law_draw : Fun K "_law_draw" "_law_draw" s_law_draw a.f_law_draw a.d_law_draw
  b_law_draw : Binds K a.d_law_draw ["_law_pool", "_law_many"] []
  g_law_draw : mg "_law_draw" = some (.ref a.f_law_draw)
  F_law_counts : Fun K "_law_counts" "_law_counts" s_law_counts a.f_law_counts a.d_law_counts
  b_law_counts : Binds K a.d_law_counts ["_law_pool"] []
  g_law_counts : mg "_law_counts" = some (.ref a.f_law_counts)
  F_law_groups : Fun K "_law_groups" "_law_groups" s_law_groups a.f_law_groups a.d_law_groups
  b_law_groups : Binds K a.d_law_groups ["_law_found"] []
  g_law_groups : mg "_law_groups" = some (.ref a.f_law_groups)
  F_law_refused : Fun K "_law_refused" "_law_refused" s_law_refused a.f_law_refused a.d_law_refused
  b_law_refused : Binds K a.d_law_refused ["_law_thing"] []
  g_law_refused : mg "_law_refused" = some (.ref a.f_law_refused)
  F_law : Fun K "law" "law" s_law a.f_law a.d_law
  b_law : Binds K a.d_law ["_law_script"] []
  g_law : mg "law" = some (.ref a.f_law)
  g_InvalidSizes : mg "InvalidSizes" = some (.ref a.c_InvalidSizes)
  g_GrowError : mg "GrowError" = some (.ref a.c_GrowError)
  g_InvalidNumber : mg "InvalidNumber" = some (.ref a.c_InvalidNumber)
  o_InvalidSizes : OexC K a.c_InvalidSizes
  i_InvalidSizes : PySem.W.findIn K (.ref a.c_InvalidSizes) "__init__" = some (some (.ref a.i_InvalidSizes))
  t_InvalidSizes : PySem.W.typeIn K (.ref a.i_InvalidSizes) = some (.type "function")
  n_InvalidSizes : PySem.W.findIn K (.ref a.c_InvalidSizes) "number" = some none
  FI_InvalidSizes : Fun K "__init__" "InvalidSizes.__init__" si_InvalidSizes a.i_InvalidSizes a.e_InvalidSizes
  BI_InvalidSizes : Binds K a.e_InvalidSizes ["self", "number"] []
  x_InvalidSizes : XfC K a.c_InvalidSizes
  q_InvalidSizes : ExcC K a.c_InvalidSizes
  m_InvalidSizes_GrowError : PySem.W.exmOne K (.ref a.c_InvalidSizes) (.ref a.c_GrowError) = some true
  k_InvalidSizes_InvalidSizes : PySem.W.kitOne K (.ref a.c_InvalidSizes) (.ref a.c_InvalidSizes) = some true
  k_InvalidSizes_InvalidNumber : PySem.W.kitOne K (.ref a.c_InvalidSizes) (.ref a.c_InvalidNumber) = some false
  z_bool : mg "bool" = none
  z_enumerate : mg "enumerate" = none
  z_int : mg "int" = none
  z_isinstance : mg "isinstance" = none
  z_len : mg "len" = none
  z_list : mg "list" = none
  z_max : mg "max" = none
  z_min : mg "min" = none
  z_range : mg "range" = none
  z_sum : mg "sum" = none
  c_MOST_COUNT : ∃ t : Tok, mg "MOST_COUNT" = some (.int 1000 t)
  c_MOST_FILES : ∃ t : Tok, mg "MOST_FILES" = some (.int 8 t)
def nI (i : Nat) : T := .int i
def isInt (x : T) (a b : Int) : Bool := match x with
  | .int i => decide (a ≤ i) && decide (i ≤ b)
  | _ => false
/-- neither a list nor of the right length -/
def oddT : T → Bool
  | .non => true
  | .bl _ => true
  | .int _ => true
  | .str _ => true
  | .tup _ => true
  | .lst xs => decide (xs.length = 0) || decide (8 < xs.length)
  | _ => false
def C_is_integer : Con := fun ts h Q _ => ∃ x a b k, ts = [x, .int a, .int b] ∧ kdOf h x = some k ∧ Q (.bl (isInt x a b)) h
def badX (a : Ad) (t : T) : Ex := ⟨.ref a.c_InvalidSizes, [("number", t)]⟩
def C_check_sizes (a : Ad) : Con := fun ts h Q E => ∃ (t : T) (m : Int), ts = [t, .int m] ∧
  ((∃ cs : List Int, t = .lst (cs.map .int) ∧ 1 ≤ cs.length ∧ cs.length ≤ 8 ∧ (∀ c ∈ cs, 0 ≤ c ∧ c ≤ m) ∧ Q .non h) ∨
   (∃ (cs : List Int) (x : T) (r : List T) (k : Kd), t = .lst (cs.map .int ++ x :: r) ∧ cs.length + (r.length + 1) ≤ 8 ∧ (∀ c ∈ cs, 0 ≤ c ∧ c ≤ m) ∧ kdOf h x = some k ∧ isInt x 0 m = false ∧ E (badX a (nI cs.length)) h) ∨
   (oddT t = true ∧ E (badX a .non) h))
def C_in_order : Con := fun ts h Q _ => ∃ cs : List Int, ts = [.lst (cs.map .int)] ∧ GM.pos cs ∧ cs.sum ≤ 100000 ∧ cs.length ≤ 8 ∧ ∀ p, h p = none → Q (.ref p) (put h p (.lst ((GM.order cs).map nI)))
def C_order_of (a : Ad) : Con := fun ts h Q E =>
  (∃ cs : List Int, ts = [.lst (cs.map .int)] ∧ 1 ≤ cs.length ∧ cs.length ≤ 8 ∧ (∀ c ∈ cs, 0 ≤ c ∧ c ≤ 1000) ∧ ∀ p, h p = none → Q (.ref p) (put h p (.lst ((GM.order cs).map nI)))) ∨
  (∃ (cs : List Int) (x : T) (r : List T) (k : Kd), ts = [.lst (cs.map .int ++ x :: r)] ∧ cs.length + (r.length + 1) ≤ 8 ∧ (∀ c ∈ cs, 0 ≤ c ∧ c ≤ 1000) ∧ kdOf h x = some k ∧ isInt x 0 1000 = false ∧ E (badX a (nI cs.length)) h) ∨
  (∃ t, ts = [t] ∧ oddT t = true ∧ E (badX a .non) h)
def C_law_counts : Con := fun ts h Q _ => ∃ p : Addr, ts = [.ref p] ∧ h p = some .pool ∧ ∀ cs : List Int, 1 ≤ cs.length → cs.length ≤ 8 → (∀ c ∈ cs, 0 ≤ c ∧ c ≤ 1000) → ∀ q, h q = none → Q (.ref q) (put h q (.lst (cs.map .int)))
def C_law_groups : Con := fun ts h Q _ => ∃ xs : List Nat, ts = [.lst (xs.map nI)] ∧ xs.length ≤ 100000 ∧ Q (.int (GM.changes none xs)) h
def C_law_refused : Con := fun ts h Q _ =>
  (∃ (cs : List Int) (x : T) (r : List T) (k : Kd), ts = [.lst (cs.map .int ++ x :: r)] ∧ cs.length + (r.length + 1) ≤ 8 ∧ (∀ c ∈ cs, 0 ≤ c ∧ c ≤ 1000) ∧ kdOf h x = some k ∧ isInt x 0 1000 = false ∧ Q (.tup [.str "sizes", nI cs.length]) h) ∨
  (∃ t, ts = [t] ∧ oddT t = true ∧ Q (.tup [.str "sizes", .non]) h)
def C_law : Con := fun ts h Q _ => ∃ ns : List Int, ts = [.scr ns] ∧ ns.length ≤ 63 ∧ ∀ h', Q (.bl true) h'
def B_is_integer : SM :=
    (sRet (eAndV (eCB oIsi (aCons (eVar 0) (aCons (eC (.ty "int")) aNil))) (eAndV (eNotV (eCB oIsi (aCons (eVar 0) (aCons (eC (.ty "bool")) aNil)))) (eChain oLe oLe (eVar 1) (eVar 0) (eVar 2)))))
def B_check_sizes (K : PySem.W.Frag) (a : Ad) : SM :=
    (sSeq (sIf (tOrM (tNotM (tTru (eCB oIsi (aCons (eVar 0) (aCons (eC (.ty "list")) aNil))))) (tNotM (tOf (eChain oLe oLe (eC (.int 1)) (eCB oLen (aCons (eVar 0) aNil)) (eC (.int 8)))))) (sRaise a.c_InvalidSizes "number" (aCons (eC .non) aNil)) sNext)
    (sFor (iEnum (aCons (eVar 0) aNil)) (gTup 2 (gCons (gN 2) (gCons (gN 3) gNil))) (sIf (tNotM (tTru (eFrz (eCall 3 C_is_integer (aCons (eVar 3) (aCons (eC (.int 0)) (aCons (eVar 1) aNil))))))) (sRaise a.c_InvalidSizes "number" (aCons (eVar 2) aNil)) sNext)))
def B_in_order : SM :=
    (sSeq (sAsg (eLc false (iSeq (eVar 0)) (cN 2 [2]) tYes (eCB oInt (aCons (eVar 2) aNil))) (gN 1))
    (sSeq (sAsg (eLst false aNil) (gN 3))
    (sSeq (sAsg (eC .non) (gN 4))
    (sSeq (sFor (iRange1 (aCons (eCB oSumL (aCons (eVar 1) aNil)) aNil)) (gN 5) (sSeq (sAsg (eC .non) (gN 6))
    (sSeq (sFor (iEnum (aCons (eVar 1) aNil)) (gTup 2 (gCons (gN 7) (gCons (gN 8) gNil))) (sIf (tAndM (tOf (eOp oNe (eVar 7) (eVar 4))) (tAndM (tOf (eOp oGt (eVar 8) (eC (.int 0)))) (tOrM (tOf (eOp oIsN (eVar 6) (eC .non))) (tOf (eOp oGt (eVar 8) (eOp oIx (eVar 1) (eVar 6))))))) (sAsg (eVar 7) (gN 6)) sNext))
    (sSeq (sIf (tOf (eOp oIsN (eVar 6) (eC .non))) (sAsg (eVar 4) (gN 6)) sNext)
    (sSeq (sDrop (eBM isLs oApp (eVar 3) (aCons (eVar 6) aNil)))
    (sSeq (sAugS (eVar 1) (eVar 6) (eC (.int 1)) oSub)
    (sAsg (eVar 6) (gN 4))))))))
    (sRet (eVar 3))))))
def B_order_of (K : PySem.W.Frag) (a : Ad) : SM :=
    (sSeq (sDrop (eFrz (eCall 2 (C_check_sizes a) (aCons (eVar 0) (aCons (eC (.int 1000)) aNil)))))
    (sRet (eCall 1 C_in_order (aCons (eVar 0) aNil))))
def B_law_hand : SM :=
    (sSeq (sAsg (eOp oIx (eOp (oAdd true) (eSl true (eVar 0) (mPart (eVar 1)) (mPart (eOp (oAdd true) (eVar 1) (eC (.int 1))))) (eLst true (aCons (eC (.int 0)) aNil))) (eC (.int 0))) (gN 2))
    (sSeq (sAsg (eOp oMod (eOp (oMul true) (eOp (oAdd true) (eOp (oAdd true) (eOp oMod (eCB oInt (aCons (eVar 2) aNil)) (eC (.int 2147483647))) (eOp (oMul true) (eC (.int 7919)) (eVar 1))) (eC (.int 1))) (eC (.int 48271))) (eC (.int 2147483629))) (gN 3))
    (sRet (eLst false (aCons (eOp (oMul true) (eCB oInt (aCons (eOp oGe (eVar 2) (eOp oPow (eC (.int 10)) (eC (.int 18)))) aNil)) (eVar 2)) (aCons (eVar 3) aNil))))))
def B_law_draw : SM :=
    (sSeq (sIf (tOf (eOp oGt (eOp oIx (eVar 0) (eC (.int 0))) (eC (.int 0)))) (sSeq (sAsg (eOp oMod (eCB oInt (aCons (eOp oIx (eVar 0) (eC (.int 0))) aNil)) (eVar 1)) (gN 2))
    (sSeq (sAsg (eOp oDiv (eOp oIx (eVar 0) (eC (.int 0))) (eVar 1)) (gSub (eVar 0) (eC (.int 0))))
    (sRet (eVar 2)))) sNext)
    (sSeq (sAsg (eOp oMod (eCB oInt (aCons (eOp (oAdd true) (eOp (oMul true) (eOp oIx (eVar 0) (eC (.int 1))) (eC (.int 48271))) (eC (.int 11))) aNil)) (eC (.int 2147483647))) (gSub (eVar 0) (eC (.int 1))))
    (sRet (eOp oMod (eOp oDiv (eOp oMod (eCB oInt (aCons (eOp (oMul true) (eOp oIx (eVar 0) (eC (.int 1))) (eOp oIx (eVar 0) (eC (.int 1)))) aNil)) (eC (.int 2147483629))) (eC (.int 64))) (eVar 1)))))
def B_law_counts : SM :=
    (sSeq (sAsg (eLc false (iRange1 (aCons (eOp (oAdd true) (eC (.int 1)) (eFrz (eCall 2 CDraw (aCons (eVar 0) (aCons (eC (.int 8)) aNil))))) aNil)) (cN 2 [2]) tYes (eOp oIx (eLst true (aCons (eC (.int 0)) (aCons (eC (.int 1)) (aCons (eC (.int 2)) (aCons (eC (.int 3)) (aCons (eC (.int 7)) (aCons (eFrz (eCall 2 CDraw (aCons (eVar 0) (aCons (eC (.int 31)) aNil)))) aNil))))))) (eFrz (eCall 2 CDraw (aCons (eVar 0) (aCons (eC (.int 6)) aNil)))))) (gN 1))
    (sSeq (sIf (tOf (eOp oEq (eFrz (eCall 2 CDraw (aCons (eVar 0) (aCons (eC (.int 3)) aNil)))) (eC (.int 0)))) (sAsg (eOp (oAdd true) (eCB oSumL (aCons (eLc true (iSeq (eVar 1)) (cN 3 [3]) tYes (eCB oInt (aCons (eVar 3) aNil))) aNil)) (eFrz (eCall 2 CDraw (aCons (eVar 0) (aCons (eC (.int 4)) aNil))))) (gSub (eVar 1) (eFrz (eCall 2 CDraw (aCons (eVar 0) (aCons (eCB oLen (aCons (eVar 1) aNil)) aNil)))))) sNext)
    (sRet (eVar 1))))
def B_law_groups : SM :=
    (sRet (eCB oLen (aCons (eLc true (iRange1 (aCons (eCB oLen (aCons (eVar 0) aNil)) aNil)) (cN 1 [1]) (tOrM (tOf (eOp oEq (eVar 1) (eC (.int 0)))) (tOf (eOp oNe (eOp oIx (eVar 0) (eVar 1)) (eOp oIx (eVar 0) (eOp oSub (eVar 1) (eC (.int 1))))))) (eVar 1)) aNil)))
def B_law_refused (K : PySem.W.Frag) (a : Ad) : SM :=
    (sSeq (sTry K (.ref a.c_GrowError) 1 (sDrop (eFrz (eCall 1 (C_order_of a) (aCons (eVar 0) aNil)))) (fun ea ecls ed => (sRet (eIf (tAndM (tTru (eCB (oIsE K ea ecls ed) (aCons (eVar 1) (aCons (eC (.ref a.c_InvalidSizes)) aNil)))) (tNotM (tTru (eCB (oIsE K ea ecls ed) (aCons (eVar 1) (aCons (eC (.ref a.c_InvalidNumber)) aNil)))))) (eTup (aCons (eC (.str "sizes")) (aCons (eXf K ea ecls ed "number" (eVar 1)) aNil))) (eC .non)))))
    (sRet (eC .non)))
def B_law (K : PySem.W.Frag) (a : Ad) : SM :=
    (sSeq (sIf (tOrM (tOf (eOp oNe (eCB oLen (aCons (eFrz (eCall 1 (C_order_of a) (aCons (eLst true (aCons (eC (.int 1000)) aNil)) aNil))) aNil)) (eC (.int 1000)))) (tOf (eOp oNe (eFrz (eCall 1 C_law_groups (aCons (eFrz (eCall 1 (C_order_of a) (aCons (eLst true (aCons (eC (.int 1000)) (aCons (eC (.int 999)) aNil))) aNil))) aNil))) (eC (.int 1999))))) (sRet (eC (.bl false))) sNext)
    (sSeq (sFor (iRange1 (aCons (eCB oMax (aCons (eC (.int 1)) (aCons (eCB oMin (aCons (eCB oLen (aCons (eVar 0) aNil)) (aCons (eC (.int 8)) aNil))) aNil))) aNil)) (gN 1) (sSeq (sAsg (eFrz (eCall 2 CHand (aCons (eVar 0) (aCons (eVar 1) aNil)))) (gN 2))
    (sSeq (sAsg (eFrz (eCall 1 C_law_counts (aCons (eVar 2) aNil))) (gN 3))
    (sSeq (sAsg (eCB (oList true) (aCons (eVar 3) aNil)) (gN 4))
    (sSeq (sAsg (eFrz (eCall 1 (C_order_of a) (aCons (eVar 4) aNil))) (gN 5))
    (sSeq (sIf (tOrM (tOf (eOp oNe (eVar 4) (eVar 3))) (tOrM (tNotM (tTru (eCB oIsi (aCons (eVar 5) (aCons (eC (.ty "list")) aNil))))) (tOf (eOp oNe (eCB oLen (aCons (eVar 5) aNil)) (eCB oSumL (aCons (eLc true (iSeq (eVar 3)) (cN 6 [6]) tYes (eCB oInt (aCons (eVar 6) aNil))) aNil)))))) (sRet (eC (.bl false))) sNext)
    (sSeq (sIf (tOf (eOp oNe (eLc true (iRange1 (aCons (eCB oLen (aCons (eVar 3) aNil)) aNil)) (cN 8 [8]) tYes (eCB oLen (aCons (eLc true (iSeq (eVar 5)) (cN 7 [7]) (tOf (eOp oEq (eVar 7) (eVar 8))) (eVar 7)) aNil))) (eVar 3))) (sRet (eC (.bl false))) sNext)
    (sSeq (sAsg (eCB oMax (aCons (eLc true (iSeq (eVar 3)) (cN 6 [6]) tYes (eCB oInt (aCons (eVar 6) aNil))) aNil)) (gN 9))
    (sSeq (sAsg (eOp oSub (eCB oLen (aCons (eVar 5) aNil)) (eVar 9)) (gN 10))
    (sSeq (sIf (tOf (eOp oNe (eFrz (eCall 1 C_law_groups (aCons (eVar 5) aNil))) (eIf (tOf (eOp oLe (eVar 9) (eOp (oAdd true) (eVar 10) (eC (.int 1))))) (eCB oLen (aCons (eVar 5) aNil)) (eOp (oAdd true) (eOp (oMul true) (eC (.int 2)) (eVar 10)) (eC (.int 1)))))) (sRet (eC (.bl false))) sNext)
    (sSeq (sAsg (eFrz (eCall 2 CDraw (aCons (eVar 2) (aCons (eCB oLen (aCons (eVar 3) aNil)) aNil)))) (gN 8))
    (sSeq (sAsg (eOp (oAdd true) (eOp (oAdd true) (eSl true (eVar 3) mNo (mPart (eVar 8))) (eLst true (aCons (eOp oIx (eLst true (aCons (eC .non) (aCons (eC (.bl true)) (aCons (eOp oSub (eC (.int 0)) (eC (.int 1))) (aCons (eC (.int 1001)) (aCons (eC (.str "1")) aNil)))))) (eFrz (eCall 2 CDraw (aCons (eVar 2) (aCons (eC (.int 5)) aNil))))) aNil))) (eSl true (eVar 3) (mPart (eOp (oAdd true) (eVar 8) (eC (.int 1)))) mNo)) (gN 11))
    (sSeq (sIf (tOf (eOp oNe (eFrz (eCall 1 C_law_refused (aCons (eVar 11) aNil))) (eTup (aCons (eC (.str "sizes")) (aCons (eVar 8) aNil))))) (sRet (eC (.bl false))) sNext)
    (sFor (iSeq (eLst true (aCons (eC .non) (aCons (eLst true aNil) (aCons (eTup (aCons (eC (.int 1)) (aCons (eC (.int 2)) aNil))) (aCons (eOp (oMul true) (eLst true (aCons (eC (.int 1)) aNil)) (eC (.int 9))) (aCons (eC (.str "12")) (aCons (eC (.int 3)) aNil)))))))) (gN 12) (sIf (tOf (eOp oNe (eFrz (eCall 1 C_law_refused (aCons (eVar 12) aNil))) (eTup (aCons (eC (.str "sizes")) (aCons (eC .non) aNil))))) (sRet (eC (.bl false))) sNext)))))))))))))))
    (sRet (eC (.bl true)))))
end TL

namespace TL
open PySem L2

theorem pl_law_draw : ∀ ts h Q E, ts.length = 2 → CxDraw ts h Q E → B_law_draw (ends Q E) (startT N_law_draw.length ts) h := by
  rintro ts h Q E - ⟨p, n, a, b, rfl, n0, n1, hp, ⟨a0, b0, b1⟩, q⟩
  unfold B_law_draw
  simp only [hp, lim, ends, startT, eVar, eC, eOp, tOf, eChain, tAndM, tOrM, tNotM, eAndV, eOrV, eNotV, eIf, aNil, aCons, eTup, eLst, eFrz, frzK, oI, oIC, oSub, oMod, oDiv, oPow, oLt, oLe, oGt, oGe, oAdd, oMul, eNeg, oIsN, oNotN, oIx, atK, mNo, mPart, eSl, eCB, oLen, oInt, oSumL, oMax, oMin, oList, oBls, eCall, eBM, eBM0, isLs, oApp, oPop, oExt, lsOf, tTru, sNext, sSeq, sDrop, sRet, sRetN, sIf, sBreak, sCont, sNever, gN, gNil, gCons, gTup, setT, gSub, sAsg, sPar, sAug, oIxL, sAugS, oAddI, sFor, eLc, iSeq, iRange1, iRange2, iEnum, tYes, oIsi, kdOf, oEq, oNe, eqT_int, eqT_nn, eqT_in, eqT_ni,   atI_0, atI_1, atI_2, atI_3, atI_4, atI_5, atI_6, atI_7, atI_8, atI_m1, ixN_0, ixN_1,   kdN_int, kdN_bool, kdN_str, kdN_list, kdN_tuple, isK, view_int, view_non, dep_int, dep_non, cN, cN2, wipeT,   mk_true, mk_false, put_same, put_put,   List.map_cons, List.map_nil, List.length_cons, List.length_nil, List.replicate, List.cons_append, List.nil_append, List.append_nil, List.set_cons_zero, List.set_cons_succ, List.getElem?_cons_zero, List.getElem?_cons_succ, List.getElem?_nil, Nat.reduceAdd, Nat.reduceSub, Nat.reduceLeDiff, Nat.reduceLT, Nat.reduceEqDiff, Option.isSome_some, Option.isSome_none, true_and, and_true, if_true, if_false, Bool.false_eq_true, Bool.not_true, Bool.not_false, reduceCtorEq, Nat.zero_add, Nat.zero_le, decide_eq_true_eq, Bool.not_eq_true', decide_eq_false_iff_not, ite_true, ite_false, Bool.if_false_right, Bool.if_true_left, decide_true, decide_false, Bool.true_or, Bool.or_true, Bool.false_or, Bool.or_false, Bool.true_and, Bool.and_true, Bool.false_and, Bool.and_false, List.length_map, not_true_eq_false, not_false_eq_true, false_and, and_false, bne_self_eq_false, Bool.not_eq_false]
  split
  · refine ⟨n0, ⟨n0, n1⟩, dn_self (q _ _ _ (Int.emod_nonneg _ (by omega)) (Int.emod_lt_of_pos _ n0) ⟨Int.ediv_nonneg a0 (by omega), b0, b1⟩)⟩
  · have c0 := Int.emod_nonneg (b * 48271 + 11) (show (2147483647 : Int) ≠ 0 by decide)
    have c1 := Int.emod_lt_of_pos (b * 48271 + 11) (show (0 : Int) < 2147483647 by decide)
    generalize (b * 48271 + 11) % 2147483647 = c at *
    refine ⟨.inl (by omega), by decide, .inl (by omega), by decide, ⟨by decide, by decide⟩, n0, dn_self (q _ _ _ (Int.emod_nonneg _ (by omega)) (Int.emod_lt_of_pos _ n0) ⟨a0, c0, c1⟩)⟩
theorem cell_at (ns : List Int) (lo hi : Option Int) : ∃ c, atI (cutT (ns.map T.int) lo hi ++ [T.int 0]) 0 = some (.int c) ∧ (cutT (ns.map T.int) lo hi).length ≤ ns.length := by
  unfold cutT
  rw [← List.map_drop, ← List.map_take]
  generalize e : (List.drop _ ns).take _ = xs
  have hl : xs.length ≤ ns.length := by
    rw [← e, List.length_take, List.length_drop]; omega
  cases xs with
  | nil => exact ⟨0, atI_0, by simp⟩
  | cons x r => exact ⟨x, atI_0, by simpa using hl⟩
theorem pl_law_hand : ∀ ts h Q E, ts.length = 2 → CxHand ts h Q E → B_law_hand (ends Q E) (startT N_law_hand.length ts) h := by
  rintro ts h Q E - ⟨ns, k, rfl, k0, k1, hn, q⟩
  unfold B_law_hand
  obtain ⟨c, hc, hl⟩ := cell_at ns (some k) (some (k + 1))
  simp only [hc, lim, ends, startT, eVar, eC, eOp, tOf, eChain, tAndM, tOrM, tNotM, eAndV, eOrV, eNotV, eIf, aNil, aCons, eTup, eLst, eFrz, frzK, oI, oIC, oSub, oMod, oDiv, oPow, oLt, oLe, oGt, oGe, oAdd, oMul, eNeg, oIsN, oNotN, oIx, atK, mNo, mPart, eSl, eCB, oLen, oInt, oSumL, oMax, oMin, oList, oBls, eCall, eBM, eBM0, isLs, oApp, oPop, oExt, lsOf, tTru, sNext, sSeq, sDrop, sRet, sRetN, sIf, sBreak, sCont, sNever, gN, gNil, gCons, gTup, setT, gSub, sAsg, sPar, sAug, oIxL, sAugS, oAddI, sFor, eLc, iSeq, iRange1, iRange2, iEnum, tYes, oIsi, kdOf, oEq, oNe, eqT_int, eqT_nn, eqT_in, eqT_ni,   atI_0, atI_1, atI_2, atI_3, atI_4, atI_5, atI_6, atI_7, atI_8, atI_m1, ixN_0, ixN_1,   kdN_int, kdN_bool, kdN_str, kdN_list, kdN_tuple, isK, view_int, view_non, dep_int, dep_non, cN, cN2, wipeT,   mk_true, mk_false, put_same, put_put,   List.map_cons, List.map_nil, List.length_cons, List.length_nil, List.replicate, List.cons_append, List.nil_append, List.append_nil, List.set_cons_zero, List.set_cons_succ, List.getElem?_cons_zero, List.getElem?_cons_succ, List.getElem?_nil, Nat.reduceAdd, Nat.reduceSub, Nat.reduceLeDiff, Nat.reduceLT, Nat.reduceEqDiff, Option.isSome_some, Option.isSome_none, true_and, and_true, if_true, if_false, Bool.false_eq_true, Bool.not_true, Bool.not_false, reduceCtorEq, Nat.zero_add, Nat.zero_le, decide_eq_true_eq, Bool.not_eq_true', decide_eq_false_iff_not, ite_true, ite_false, Bool.if_false_right, Bool.if_true_left, decide_true, decide_false, Bool.true_or, Bool.or_true, Bool.false_or, Bool.or_false, Bool.true_and, Bool.and_true, Bool.false_and, Bool.and_false, List.length_map, not_true_eq_false, not_false_eq_true, false_and, and_false, bne_self_eq_false, Bool.not_eq_false]
  have e18 : (10 : Int) ^ Int.toNat 18 = 1000000000000000000 := by decide
  have d0 := Int.emod_nonneg c (show (2147483647 : Int) ≠ 0 by decide)
  have d1 := Int.emod_lt_of_pos c (show (0 : Int) < 2147483647 by decide)
  generalize c % 2147483647 = d at *
  have s0 := Int.emod_nonneg ((d + 7919 * k + 1) * 48271) (show (2147483629 : Int) ≠ 0 by decide)
  have s1 := Int.emod_lt_of_pos ((d + 7919 * k + 1) * 48271) (show (0 : Int) < 2147483629 by decide)
  refine ⟨by omega, by decide, .inl (by decide), .inl (by omega), by decide, ⟨by decide, by decide, by decide⟩, .inl (by split <;> decide), fun p hp => dn_self (q _ _ ⟨?_, s0, by omega⟩ p hp)⟩
  rw [e18]
  split <;> omega
theorem pl_is_integer : ∀ ts h Q E, ts.length = 3 → C_is_integer ts h Q E → B_is_integer (ends Q E) (startT N_is_integer.length ts) h := by
  rintro ts h Q E - ⟨x, a, b, k, rfl, hk, q⟩
  unfold B_is_integer
  cases x with
  | int i =>
    simp only [isInt, lim, ends, startT, eVar, eC, eOp, tOf, eChain, tAndM, tOrM, tNotM, eAndV, eOrV, eNotV, eIf, aNil, aCons, eTup, eLst, eFrz, frzK, oI, oIC, oSub, oMod, oDiv, oPow, oLt, oLe, oGt, oGe, oAdd, oMul, eNeg, oIsN, oNotN, oIx, atK, mNo, mPart, eSl, eCB, oLen, oInt, oSumL, oMax, oMin, oList, oBls, eCall, eBM, eBM0, isLs, oApp, oPop, oExt, lsOf, tTru, sNext, sSeq, sDrop, sRet, sRetN, sIf, sBreak, sCont, sNever, gN, gNil, gCons, gTup, setT, gSub, sAsg, sPar, sAug, oIxL, sAugS, oAddI, sFor, eLc, iSeq, iRange1, iRange2, iEnum, tYes, oIsi, kdOf, oEq, oNe, eqT_int, eqT_nn, eqT_in, eqT_ni,   atI_0, atI_1, atI_2, atI_3, atI_4, atI_5, atI_6, atI_7, atI_8, atI_m1, ixN_0, ixN_1,   kdN_int, kdN_bool, kdN_str, kdN_list, kdN_tuple, isK, view_int, view_non, dep_int, dep_non, cN, cN2, wipeT,   mk_true, mk_false, put_same, put_put,   List.map_cons, List.map_nil, List.length_cons, List.length_nil, List.replicate, List.cons_append, List.nil_append, List.append_nil, List.set_cons_zero, List.set_cons_succ, List.getElem?_cons_zero, List.getElem?_cons_succ, List.getElem?_nil, Nat.reduceAdd, Nat.reduceSub, Nat.reduceLeDiff, Nat.reduceLT, Nat.reduceEqDiff, Option.isSome_some, Option.isSome_none, true_and, and_true, if_true, if_false, Bool.false_eq_true, Bool.not_true, Bool.not_false, reduceCtorEq, Nat.zero_add, Nat.zero_le, decide_eq_true_eq, Bool.not_eq_true', decide_eq_false_iff_not, ite_true, ite_false, Bool.if_false_right, Bool.if_true_left, decide_true, decide_false, Bool.true_or, Bool.or_true, Bool.false_or, Bool.or_false, Bool.true_and, Bool.and_true, Bool.false_and, Bool.and_false, List.length_map, not_true_eq_false, not_false_eq_true, false_and, and_false, bne_self_eq_false, Bool.not_eq_false]
    simp only [isInt] at q
    by_cases c : a ≤ i
    · simp [c] at q ⊢; exact dn_self q
    · simp [c] at q ⊢; exact dn_self q
  | ref p =>
    simp only [kdOf] at hk
    split at hk
    · rename_i ts e
      simp only [e, lim, ends, startT, eVar, eC, eOp, tOf, eChain, tAndM, tOrM, tNotM, eAndV, eOrV, eNotV, eIf, aNil, aCons, eTup, eLst, eFrz, frzK, oI, oIC, oSub, oMod, oDiv, oPow, oLt, oLe, oGt, oGe, oAdd, oMul, eNeg, oIsN, oNotN, oIx, atK, mNo, mPart, eSl, eCB, oLen, oInt, oSumL, oMax, oMin, oList, oBls, eCall, eBM, eBM0, isLs, oApp, oPop, oExt, lsOf, tTru, sNext, sSeq, sDrop, sRet, sRetN, sIf, sBreak, sCont, sNever, gN, gNil, gCons, gTup, setT, gSub, sAsg, sPar, sAug, oIxL, sAugS, oAddI, sFor, eLc, iSeq, iRange1, iRange2, iEnum, tYes, oIsi, kdOf, oEq, oNe, eqT_int, eqT_nn, eqT_in, eqT_ni,   atI_0, atI_1, atI_2, atI_3, atI_4, atI_5, atI_6, atI_7, atI_8, atI_m1, ixN_0, ixN_1,   kdN_int, kdN_bool, kdN_str, kdN_list, kdN_tuple, isK, view_int, view_non, dep_int, dep_non, cN, cN2, wipeT,   mk_true, mk_false, put_same, put_put,   List.map_cons, List.map_nil, List.length_cons, List.length_nil, List.replicate, List.cons_append, List.nil_append, List.append_nil, List.set_cons_zero, List.set_cons_succ, List.getElem?_cons_zero, List.getElem?_cons_succ, List.getElem?_nil, Nat.reduceAdd, Nat.reduceSub, Nat.reduceLeDiff, Nat.reduceLT, Nat.reduceEqDiff, Option.isSome_some, Option.isSome_none, true_and, and_true, if_true, if_false, Bool.false_eq_true, Bool.not_true, Bool.not_false, reduceCtorEq, Nat.zero_add, Nat.zero_le, decide_eq_true_eq, Bool.not_eq_true', decide_eq_false_iff_not, ite_true, ite_false, Bool.if_false_right, Bool.if_true_left, decide_true, decide_false, Bool.true_or, Bool.or_true, Bool.false_or, Bool.or_false, Bool.true_and, Bool.and_true, Bool.false_and, Bool.and_false, List.length_map, not_true_eq_false, not_false_eq_true, false_and, and_false, bne_self_eq_false, Bool.not_eq_false]
      exact dn_self q
    · cases hk
  | non => simp only [isInt, lim, ends, startT, eVar, eC, eOp, tOf, eChain, tAndM, tOrM, tNotM, eAndV, eOrV, eNotV, eIf, aNil, aCons, eTup, eLst, eFrz, frzK, oI, oIC, oSub, oMod, oDiv, oPow, oLt, oLe, oGt, oGe, oAdd, oMul, eNeg, oIsN, oNotN, oIx, atK, mNo, mPart, eSl, eCB, oLen, oInt, oSumL, oMax, oMin, oList, oBls, eCall, eBM, eBM0, isLs, oApp, oPop, oExt, lsOf, tTru, sNext, sSeq, sDrop, sRet, sRetN, sIf, sBreak, sCont, sNever, gN, gNil, gCons, gTup, setT, gSub, sAsg, sPar, sAug, oIxL, sAugS, oAddI, sFor, eLc, iSeq, iRange1, iRange2, iEnum, tYes, oIsi, kdOf, oEq, oNe, eqT_int, eqT_nn, eqT_in, eqT_ni,   atI_0, atI_1, atI_2, atI_3, atI_4, atI_5, atI_6, atI_7, atI_8, atI_m1, ixN_0, ixN_1,   kdN_int, kdN_bool, kdN_str, kdN_list, kdN_tuple, isK, view_int, view_non, dep_int, dep_non, cN, cN2, wipeT,   mk_true, mk_false, put_same, put_put,   List.map_cons, List.map_nil, List.length_cons, List.length_nil, List.replicate, List.cons_append, List.nil_append, List.append_nil, List.set_cons_zero, List.set_cons_succ, List.getElem?_cons_zero, List.getElem?_cons_succ, List.getElem?_nil, Nat.reduceAdd, Nat.reduceSub, Nat.reduceLeDiff, Nat.reduceLT, Nat.reduceEqDiff, Option.isSome_some, Option.isSome_none, true_and, and_true, if_true, if_false, Bool.false_eq_true, Bool.not_true, Bool.not_false, reduceCtorEq, Nat.zero_add, Nat.zero_le, decide_eq_true_eq, Bool.not_eq_true', decide_eq_false_iff_not, ite_true, ite_false, Bool.if_false_right, Bool.if_true_left, decide_true, decide_false, Bool.true_or, Bool.or_true, Bool.false_or, Bool.or_false, Bool.true_and, Bool.and_true, Bool.false_and, Bool.and_false, List.length_map, not_true_eq_false, not_false_eq_true, false_and, and_false, bne_self_eq_false, Bool.not_eq_false]; exact dn_self q
  | bl b => simp only [isInt, lim, ends, startT, eVar, eC, eOp, tOf, eChain, tAndM, tOrM, tNotM, eAndV, eOrV, eNotV, eIf, aNil, aCons, eTup, eLst, eFrz, frzK, oI, oIC, oSub, oMod, oDiv, oPow, oLt, oLe, oGt, oGe, oAdd, oMul, eNeg, oIsN, oNotN, oIx, atK, mNo, mPart, eSl, eCB, oLen, oInt, oSumL, oMax, oMin, oList, oBls, eCall, eBM, eBM0, isLs, oApp, oPop, oExt, lsOf, tTru, sNext, sSeq, sDrop, sRet, sRetN, sIf, sBreak, sCont, sNever, gN, gNil, gCons, gTup, setT, gSub, sAsg, sPar, sAug, oIxL, sAugS, oAddI, sFor, eLc, iSeq, iRange1, iRange2, iEnum, tYes, oIsi, kdOf, oEq, oNe, eqT_int, eqT_nn, eqT_in, eqT_ni,   atI_0, atI_1, atI_2, atI_3, atI_4, atI_5, atI_6, atI_7, atI_8, atI_m1, ixN_0, ixN_1,   kdN_int, kdN_bool, kdN_str, kdN_list, kdN_tuple, isK, view_int, view_non, dep_int, dep_non, cN, cN2, wipeT,   mk_true, mk_false, put_same, put_put,   List.map_cons, List.map_nil, List.length_cons, List.length_nil, List.replicate, List.cons_append, List.nil_append, List.append_nil, List.set_cons_zero, List.set_cons_succ, List.getElem?_cons_zero, List.getElem?_cons_succ, List.getElem?_nil, Nat.reduceAdd, Nat.reduceSub, Nat.reduceLeDiff, Nat.reduceLT, Nat.reduceEqDiff, Option.isSome_some, Option.isSome_none, true_and, and_true, if_true, if_false, Bool.false_eq_true, Bool.not_true, Bool.not_false, reduceCtorEq, Nat.zero_add, Nat.zero_le, decide_eq_true_eq, Bool.not_eq_true', decide_eq_false_iff_not, ite_true, ite_false, Bool.if_false_right, Bool.if_true_left, decide_true, decide_false, Bool.true_or, Bool.or_true, Bool.false_or, Bool.or_false, Bool.true_and, Bool.and_true, Bool.false_and, Bool.and_false, List.length_map, not_true_eq_false, not_false_eq_true, false_and, and_false, bne_self_eq_false, Bool.not_eq_false]; exact dn_self q
  | str z => simp only [isInt, lim, ends, startT, eVar, eC, eOp, tOf, eChain, tAndM, tOrM, tNotM, eAndV, eOrV, eNotV, eIf, aNil, aCons, eTup, eLst, eFrz, frzK, oI, oIC, oSub, oMod, oDiv, oPow, oLt, oLe, oGt, oGe, oAdd, oMul, eNeg, oIsN, oNotN, oIx, atK, mNo, mPart, eSl, eCB, oLen, oInt, oSumL, oMax, oMin, oList, oBls, eCall, eBM, eBM0, isLs, oApp, oPop, oExt, lsOf, tTru, sNext, sSeq, sDrop, sRet, sRetN, sIf, sBreak, sCont, sNever, gN, gNil, gCons, gTup, setT, gSub, sAsg, sPar, sAug, oIxL, sAugS, oAddI, sFor, eLc, iSeq, iRange1, iRange2, iEnum, tYes, oIsi, kdOf, oEq, oNe, eqT_int, eqT_nn, eqT_in, eqT_ni,   atI_0, atI_1, atI_2, atI_3, atI_4, atI_5, atI_6, atI_7, atI_8, atI_m1, ixN_0, ixN_1,   kdN_int, kdN_bool, kdN_str, kdN_list, kdN_tuple, isK, view_int, view_non, dep_int, dep_non, cN, cN2, wipeT,   mk_true, mk_false, put_same, put_put,   List.map_cons, List.map_nil, List.length_cons, List.length_nil, List.replicate, List.cons_append, List.nil_append, List.append_nil, List.set_cons_zero, List.set_cons_succ, List.getElem?_cons_zero, List.getElem?_cons_succ, List.getElem?_nil, Nat.reduceAdd, Nat.reduceSub, Nat.reduceLeDiff, Nat.reduceLT, Nat.reduceEqDiff, Option.isSome_some, Option.isSome_none, true_and, and_true, if_true, if_false, Bool.false_eq_true, Bool.not_true, Bool.not_false, reduceCtorEq, Nat.zero_add, Nat.zero_le, decide_eq_true_eq, Bool.not_eq_true', decide_eq_false_iff_not, ite_true, ite_false, Bool.if_false_right, Bool.if_true_left, decide_true, decide_false, Bool.true_or, Bool.or_true, Bool.false_or, Bool.or_false, Bool.true_and, Bool.and_true, Bool.false_and, Bool.and_false, List.length_map, not_true_eq_false, not_false_eq_true, false_and, and_false, bne_self_eq_false, Bool.not_eq_false]; exact dn_self q
  | tup z => simp only [isInt, lim, ends, startT, eVar, eC, eOp, tOf, eChain, tAndM, tOrM, tNotM, eAndV, eOrV, eNotV, eIf, aNil, aCons, eTup, eLst, eFrz, frzK, oI, oIC, oSub, oMod, oDiv, oPow, oLt, oLe, oGt, oGe, oAdd, oMul, eNeg, oIsN, oNotN, oIx, atK, mNo, mPart, eSl, eCB, oLen, oInt, oSumL, oMax, oMin, oList, oBls, eCall, eBM, eBM0, isLs, oApp, oPop, oExt, lsOf, tTru, sNext, sSeq, sDrop, sRet, sRetN, sIf, sBreak, sCont, sNever, gN, gNil, gCons, gTup, setT, gSub, sAsg, sPar, sAug, oIxL, sAugS, oAddI, sFor, eLc, iSeq, iRange1, iRange2, iEnum, tYes, oIsi, kdOf, oEq, oNe, eqT_int, eqT_nn, eqT_in, eqT_ni,   atI_0, atI_1, atI_2, atI_3, atI_4, atI_5, atI_6, atI_7, atI_8, atI_m1, ixN_0, ixN_1,   kdN_int, kdN_bool, kdN_str, kdN_list, kdN_tuple, isK, view_int, view_non, dep_int, dep_non, cN, cN2, wipeT,   mk_true, mk_false, put_same, put_put,   List.map_cons, List.map_nil, List.length_cons, List.length_nil, List.replicate, List.cons_append, List.nil_append, List.append_nil, List.set_cons_zero, List.set_cons_succ, List.getElem?_cons_zero, List.getElem?_cons_succ, List.getElem?_nil, Nat.reduceAdd, Nat.reduceSub, Nat.reduceLeDiff, Nat.reduceLT, Nat.reduceEqDiff, Option.isSome_some, Option.isSome_none, true_and, and_true, if_true, if_false, Bool.false_eq_true, Bool.not_true, Bool.not_false, reduceCtorEq, Nat.zero_add, Nat.zero_le, decide_eq_true_eq, Bool.not_eq_true', decide_eq_false_iff_not, ite_true, ite_false, Bool.if_false_right, Bool.if_true_left, decide_true, decide_false, Bool.true_or, Bool.or_true, Bool.false_or, Bool.or_false, Bool.true_and, Bool.and_true, Bool.false_and, Bool.and_false, List.length_map, not_true_eq_false, not_false_eq_true, false_and, and_false, bne_self_eq_false, Bool.not_eq_false]; exact dn_self q
  | lst z => simp only [isInt, lim, ends, startT, eVar, eC, eOp, tOf, eChain, tAndM, tOrM, tNotM, eAndV, eOrV, eNotV, eIf, aNil, aCons, eTup, eLst, eFrz, frzK, oI, oIC, oSub, oMod, oDiv, oPow, oLt, oLe, oGt, oGe, oAdd, oMul, eNeg, oIsN, oNotN, oIx, atK, mNo, mPart, eSl, eCB, oLen, oInt, oSumL, oMax, oMin, oList, oBls, eCall, eBM, eBM0, isLs, oApp, oPop, oExt, lsOf, tTru, sNext, sSeq, sDrop, sRet, sRetN, sIf, sBreak, sCont, sNever, gN, gNil, gCons, gTup, setT, gSub, sAsg, sPar, sAug, oIxL, sAugS, oAddI, sFor, eLc, iSeq, iRange1, iRange2, iEnum, tYes, oIsi, kdOf, oEq, oNe, eqT_int, eqT_nn, eqT_in, eqT_ni,   atI_0, atI_1, atI_2, atI_3, atI_4, atI_5, atI_6, atI_7, atI_8, atI_m1, ixN_0, ixN_1,   kdN_int, kdN_bool, kdN_str, kdN_list, kdN_tuple, isK, view_int, view_non, dep_int, dep_non, cN, cN2, wipeT,   mk_true, mk_false, put_same, put_put,   List.map_cons, List.map_nil, List.length_cons, List.length_nil, List.replicate, List.cons_append, List.nil_append, List.append_nil, List.set_cons_zero, List.set_cons_succ, List.getElem?_cons_zero, List.getElem?_cons_succ, List.getElem?_nil, Nat.reduceAdd, Nat.reduceSub, Nat.reduceLeDiff, Nat.reduceLT, Nat.reduceEqDiff, Option.isSome_some, Option.isSome_none, true_and, and_true, if_true, if_false, Bool.false_eq_true, Bool.not_true, Bool.not_false, reduceCtorEq, Nat.zero_add, Nat.zero_le, decide_eq_true_eq, Bool.not_eq_true', decide_eq_false_iff_not, ite_true, ite_false, Bool.if_false_right, Bool.if_true_left, decide_true, decide_false, Bool.true_or, Bool.or_true, Bool.false_or, Bool.or_false, Bool.true_and, Bool.and_true, Bool.false_and, Bool.and_false, List.length_map, not_true_eq_false, not_false_eq_true, false_and, and_false, bne_self_eq_false, Bool.not_eq_false]; exact dn_self q
  | ins _ _ => cases hk
  | ty _ => cases hk
  | scr _ => cases hk
  | exc _ _ _ _ => cases hk
theorem sum_le {m : Int} : ∀ cs : List Int, (∀ c ∈ cs, c ≤ m) → cs.sum ≤ m * cs.length
  | [], _ => by simp
  | c :: cs, h => by
    have h1 := h c List.mem_cons_self
    have h2 := sum_le cs fun x hx => h x (List.mem_cons_of_mem _ hx)
    rw [List.sum_cons, List.length_cons]
    have : m * ((cs.length + 1 : Nat) : Int) = m * cs.length + m := by
      rw [Int.natCast_add, Int.mul_add]; omega
    omega
def lastT : Option Nat → T
  | none => .non
  | some l => .int l
theorem getD_of {l : List Int} {i : Nat} {c : Int} (h : l[i]? = some c) : l.getD i 0 = c := by rw [List.getD_eq_getElem?_getD, h]; rfl
theorem pl_in_order : ∀ ts h Q E, ts.length = 1 → C_in_order ts h Q E → B_in_order (ends Q E) (startT N_in_order.length ts) h := by
  rintro ts h Q E - ⟨cs, rfl, hp, hs, hl, q⟩
  unfold B_in_order
  simp only [ends, lim, ends, startT, eVar, eC, eOp, tOf, eChain, tAndM, tOrM, tNotM, eAndV, eOrV, eNotV, eIf, aNil, aCons, eTup, eLst, eFrz, frzK, oI, oIC, oSub, oMod, oDiv, oPow, oLt, oLe, oGt, oGe, oAdd, oMul, eNeg, oIsN, oNotN, oIx, atK, mNo, mPart, eSl, eCB, oLen, oInt, oSumL, oMax, oMin, oList, oBls, eCall, eBM, eBM0, isLs, oApp, oPop, oExt, lsOf, tTru, sNext, sSeq, sDrop, sRet, sRetN, sIf, sBreak, sCont, sNever, gN, gNil, gCons, gTup, setT, gSub, sAsg, sPar, sAug, oIxL, sAugS, oAddI, sFor, eLc, iSeq, iRange1, iRange2, iEnum, tYes, oIsi, kdOf, oEq, oNe, eqT_int, eqT_nn, eqT_in, eqT_ni,   atI_0, atI_1, atI_2, atI_3, atI_4, atI_5, atI_6, atI_7, atI_8, atI_m1, ixN_0, ixN_1,   kdN_int, kdN_bool, kdN_str, kdN_list, kdN_tuple, isK, view_int, view_non, dep_int, dep_non, cN, cN2, wipeT,   mk_true, mk_false, put_same, put_put,   List.map_cons, List.map_nil, List.length_cons, List.length_nil, List.replicate, List.cons_append, List.nil_append, List.append_nil, List.set_cons_zero, List.set_cons_succ, List.getElem?_cons_zero, List.getElem?_cons_succ, List.getElem?_nil, Nat.reduceAdd, Nat.reduceSub, Nat.reduceLeDiff, Nat.reduceLT, Nat.reduceEqDiff, Option.isSome_some, Option.isSome_none, true_and, and_true, if_true, if_false, Bool.false_eq_true, Bool.not_true, Bool.not_false, reduceCtorEq, Nat.zero_add, Nat.zero_le, decide_eq_true_eq, Bool.not_eq_true', decide_eq_false_iff_not, ite_true, ite_false, Bool.if_false_right, Bool.if_true_left, decide_true, decide_false, Bool.true_or, Bool.or_true, Bool.false_or, Bool.or_false, Bool.true_and, Bool.and_true, Bool.false_and, Bool.and_false, List.length_map, not_true_eq_false, not_false_eq_true, false_and, and_false, bne_self_eq_false, Bool.not_eq_false]
  refine lcK_map id trivial (by rw [List.length_map]; omega) (fun t ht R r => ?_) ?_
  · obtain ⟨c, _, rfl⟩ := List.mem_map.mp ht
    simp only [ends, lim, ends, startT, eVar, eC, eOp, tOf, eChain, tAndM, tOrM, tNotM, eAndV, eOrV, eNotV, eIf, aNil, aCons, eTup, eLst, eFrz, frzK, oI, oIC, oSub, oMod, oDiv, oPow, oLt, oLe, oGt, oGe, oAdd, oMul, eNeg, oIsN, oNotN, oIx, atK, mNo, mPart, eSl, eCB, oLen, oInt, oSumL, oMax, oMin, oList, oBls, eCall, eBM, eBM0, isLs, oApp, oPop, oExt, lsOf, tTru, sNext, sSeq, sDrop, sRet, sRetN, sIf, sBreak, sCont, sNever, gN, gNil, gCons, gTup, setT, gSub, sAsg, sPar, sAug, oIxL, sAugS, oAddI, sFor, eLc, iSeq, iRange1, iRange2, iEnum, tYes, oIsi, kdOf, oEq, oNe, eqT_int, eqT_nn, eqT_in, eqT_ni,   atI_0, atI_1, atI_2, atI_3, atI_4, atI_5, atI_6, atI_7, atI_8, atI_m1, ixN_0, ixN_1,   kdN_int, kdN_bool, kdN_str, kdN_list, kdN_tuple, isK, view_int, view_non, dep_int, dep_non, cN, cN2, wipeT,   mk_true, mk_false, put_same, put_put,   List.map_cons, List.map_nil, List.length_cons, List.length_nil, List.replicate, List.cons_append, List.nil_append, List.append_nil, List.set_cons_zero, List.set_cons_succ, List.getElem?_cons_zero, List.getElem?_cons_succ, List.getElem?_nil, Nat.reduceAdd, Nat.reduceSub, Nat.reduceLeDiff, Nat.reduceLT, Nat.reduceEqDiff, Option.isSome_some, Option.isSome_none, true_and, and_true, if_true, if_false, Bool.false_eq_true, Bool.not_true, Bool.not_false, reduceCtorEq, Nat.zero_add, Nat.zero_le, decide_eq_true_eq, Bool.not_eq_true', decide_eq_false_iff_not, ite_true, ite_false, Bool.if_false_right, Bool.if_true_left, decide_true, decide_false, Bool.true_or, Bool.or_true, Bool.false_or, Bool.or_false, Bool.true_and, Bool.and_true, Bool.false_and, Bool.and_false, List.length_map, not_true_eq_false, not_false_eq_true, false_and, and_false, bne_self_eq_false, Bool.not_eq_false]; exact r
  simp only [List.map_id, lim, ends, startT, eVar, eC, eOp, tOf, eChain, tAndM, tOrM, tNotM, eAndV, eOrV, eNotV, eIf, aNil, aCons, eTup, eLst, eFrz, frzK, oI, oIC, oSub, oMod, oDiv, oPow, oLt, oLe, oGt, oGe, oAdd, oMul, eNeg, oIsN, oNotN, oIx, atK, mNo, mPart, eSl, eCB, oLen, oInt, oSumL, oMax, oMin, oList, oBls, eCall, eBM, eBM0, isLs, oApp, oPop, oExt, lsOf, tTru, sNext, sSeq, sDrop, sRet, sRetN, sIf, sBreak, sCont, sNever, gN, gNil, gCons, gTup, setT, gSub, sAsg, sPar, sAug, oIxL, sAugS, oAddI, sFor, eLc, iSeq, iRange1, iRange2, iEnum, tYes, oIsi, kdOf, oEq, oNe, eqT_int, eqT_nn, eqT_in, eqT_ni,   atI_0, atI_1, atI_2, atI_3, atI_4, atI_5, atI_6, atI_7, atI_8, atI_m1, ixN_0, ixN_1,   kdN_int, kdN_bool, kdN_str, kdN_list, kdN_tuple, isK, view_int, view_non, dep_int, dep_non, cN, cN2, wipeT,   mk_true, mk_false, put_same, put_put,   List.map_cons, List.map_nil, List.length_cons, List.length_nil, List.replicate, List.cons_append, List.nil_append, List.append_nil, List.set_cons_zero, List.set_cons_succ, List.getElem?_cons_zero, List.getElem?_cons_succ, List.getElem?_nil, Nat.reduceAdd, Nat.reduceSub, Nat.reduceLeDiff, Nat.reduceLT, Nat.reduceEqDiff, Option.isSome_some, Option.isSome_none, true_and, and_true, if_true, if_false, Bool.false_eq_true, Bool.not_true, Bool.not_false, reduceCtorEq, Nat.zero_add, Nat.zero_le, decide_eq_true_eq, Bool.not_eq_true', decide_eq_false_iff_not, ite_true, ite_false, Bool.if_false_right, Bool.if_true_left, decide_true, decide_false, Bool.true_or, Bool.or_true, Bool.false_or, Bool.or_false, Bool.true_and, Bool.and_true, Bool.false_and, Bool.and_false, List.length_map, not_true_eq_false, not_false_eq_true, false_and, and_false, bne_self_eq_false, Bool.not_eq_false]
  intro p np p1 np1
  obtain ⟨n1, np1⟩ := put_none np1
  have s0 := GM.sum_pos hp
  have hi1 : ∀ (l : List Int), intsOf (l.map T.int) = some l := intsOf_map
  have rp : ∀ a b, put (put h p a) p1 b p = some a := fun a b => by rw [put_ne n1.symm, put_same]
  have wp : ∀ a b c, put (put (put h p a) p1 b) p c = put (put h p c) p1 b := fun a b c => by rw [put_comm n1, put_put]
  have hsl : (-1000000 : Int) ≤ cs.sum := by omega
  have hsu : cs.sum ≤ 1000000 := by omega
  simp only [rp, intsIn, Option.bind_some, hi1, hsl, hsu, lim, ends, startT, eVar, eC, eOp, tOf, eChain, tAndM, tOrM, tNotM, eAndV, eOrV, eNotV, eIf, aNil, aCons, eTup, eLst, eFrz, frzK, oI, oIC, oSub, oMod, oDiv, oPow, oLt, oLe, oGt, oGe, oAdd, oMul, eNeg, oIsN, oNotN, oIx, atK, mNo, mPart, eSl, eCB, oLen, oInt, oSumL, oMax, oMin, oList, oBls, eCall, eBM, eBM0, isLs, oApp, oPop, oExt, lsOf, tTru, sNext, sSeq, sDrop, sRet, sRetN, sIf, sBreak, sCont, sNever, gN, gNil, gCons, gTup, setT, gSub, sAsg, sPar, sAug, oIxL, sAugS, oAddI, sFor, eLc, iSeq, iRange1, iRange2, iEnum, tYes, oIsi, kdOf, oEq, oNe, eqT_int, eqT_nn, eqT_in, eqT_ni,   atI_0, atI_1, atI_2, atI_3, atI_4, atI_5, atI_6, atI_7, atI_8, atI_m1, ixN_0, ixN_1,   kdN_int, kdN_bool, kdN_str, kdN_list, kdN_tuple, isK, view_int, view_non, dep_int, dep_non, cN, cN2, wipeT,   mk_true, mk_false, put_same, put_put,   List.map_cons, List.map_nil, List.length_cons, List.length_nil, List.replicate, List.cons_append, List.nil_append, List.append_nil, List.set_cons_zero, List.set_cons_succ, List.getElem?_cons_zero, List.getElem?_cons_succ, List.getElem?_nil, Nat.reduceAdd, Nat.reduceSub, Nat.reduceLeDiff, Nat.reduceLT, Nat.reduceEqDiff, Option.isSome_some, Option.isSome_none, true_and, and_true, if_true, if_false, Bool.false_eq_true, Bool.not_true, Bool.not_false, reduceCtorEq, Nat.zero_add, Nat.zero_le, decide_eq_true_eq, Bool.not_eq_true', decide_eq_false_iff_not, ite_true, ite_false, Bool.if_false_right, Bool.if_true_left, decide_true, decide_false, Bool.true_or, Bool.or_true, Bool.false_or, Bool.or_false, Bool.true_and, Bool.and_true, Bool.false_and, Bool.and_false, List.length_map, not_true_eq_false, not_false_eq_true, false_and, and_false, bne_self_eq_false, Bool.not_eq_false]
  refine forK_go (fun i s h' => ∃ left last found x5 x6 x7 x8, s = [some (.lst (cs.map T.int)), some (.ref p), none, some (.ref p1), some (lastT last), x5, x6, x7, x8] ∧ h' = put (put h p (.lst (left.map T.int))) p1 (.lst (found.map nI)) ∧
    GM.pos left ∧ left.length = cs.length ∧ left.sum = cs.sum - i ∧ found.length = i ∧ found ++ GM.go (cs.sum.toNat - i) left last = GM.order cs) ⟨cs, none, [], none, none, none, none, rfl, rfl, hp, rfl, by omega, rfl, rfl⟩ ?_ ?_
  · rintro s h' ⟨left, last, found, x5, x6, x7, x8, rfl, rfl, lp, ll, ls, lf, lo⟩
    refine ⟨trivial, ?_⟩
    rw [rng_len, Nat.sub_self] at lo
    have lo' : found = GM.order cs := by rw [← lo]; show found = found ++ []; simp
    simp only [ends, lim, ends, startT, eVar, eC, eOp, tOf, eChain, tAndM, tOrM, tNotM, eAndV, eOrV, eNotV, eIf, aNil, aCons, eTup, eLst, eFrz, frzK, oI, oIC, oSub, oMod, oDiv, oPow, oLt, oLe, oGt, oGe, oAdd, oMul, eNeg, oIsN, oNotN, oIx, atK, mNo, mPart, eSl, eCB, oLen, oInt, oSumL, oMax, oMin, oList, oBls, eCall, eBM, eBM0, isLs, oApp, oPop, oExt, lsOf, tTru, sNext, sSeq, sDrop, sRet, sRetN, sIf, sBreak, sCont, sNever, gN, gNil, gCons, gTup, setT, gSub, sAsg, sPar, sAug, oIxL, sAugS, oAddI, sFor, eLc, iSeq, iRange1, iRange2, iEnum, tYes, oIsi, kdOf, oEq, oNe, eqT_int, eqT_nn, eqT_in, eqT_ni,   atI_0, atI_1, atI_2, atI_3, atI_4, atI_5, atI_6, atI_7, atI_8, atI_m1, ixN_0, ixN_1,   kdN_int, kdN_bool, kdN_str, kdN_list, kdN_tuple, isK, view_int, view_non, dep_int, dep_non, cN, cN2, wipeT,   mk_true, mk_false, put_same, put_put,   List.map_cons, List.map_nil, List.length_cons, List.length_nil, List.replicate, List.cons_append, List.nil_append, List.append_nil, List.set_cons_zero, List.set_cons_succ, List.getElem?_cons_zero, List.getElem?_cons_succ, List.getElem?_nil, Nat.reduceAdd, Nat.reduceSub, Nat.reduceLeDiff, Nat.reduceLT, Nat.reduceEqDiff, Option.isSome_some, Option.isSome_none, true_and, and_true, if_true, if_false, Bool.false_eq_true, Bool.not_true, Bool.not_false, reduceCtorEq, Nat.zero_add, Nat.zero_le, decide_eq_true_eq, Bool.not_eq_true', decide_eq_false_iff_not, ite_true, ite_false, Bool.if_false_right, Bool.if_true_left, decide_true, decide_false, Bool.true_or, Bool.or_true, Bool.false_or, Bool.or_false, Bool.true_and, Bool.and_true, Bool.false_and, Bool.and_false, List.length_map, not_true_eq_false, not_false_eq_true, false_and, and_false, bne_self_eq_false, Bool.not_eq_false]
    rw [lo']
    exact ⟨_, (sub_put np).put, q p1 np1⟩
  · rintro i t s h' e ⟨left, last, found, x5, x6, x7, x8, rfl, rfl, lp, ll, ls, lf, lo⟩
    refine ⟨trivial, ?_⟩
    obtain ⟨hi, rfl⟩ := rng_at e
    simp only [rp, lim, ends, startT, eVar, eC, eOp, tOf, eChain, tAndM, tOrM, tNotM, eAndV, eOrV, eNotV, eIf, aNil, aCons, eTup, eLst, eFrz, frzK, oI, oIC, oSub, oMod, oDiv, oPow, oLt, oLe, oGt, oGe, oAdd, oMul, eNeg, oIsN, oNotN, oIx, atK, mNo, mPart, eSl, eCB, oLen, oInt, oSumL, oMax, oMin, oList, oBls, eCall, eBM, eBM0, isLs, oApp, oPop, oExt, lsOf, tTru, sNext, sSeq, sDrop, sRet, sRetN, sIf, sBreak, sCont, sNever, gN, gNil, gCons, gTup, setT, gSub, sAsg, sPar, sAug, oIxL, sAugS, oAddI, sFor, eLc, iSeq, iRange1, iRange2, iEnum, tYes, oIsi, kdOf, oEq, oNe, eqT_int, eqT_nn, eqT_in, eqT_ni,   atI_0, atI_1, atI_2, atI_3, atI_4, atI_5, atI_6, atI_7, atI_8, atI_m1, ixN_0, ixN_1,   kdN_int, kdN_bool, kdN_str, kdN_list, kdN_tuple, isK, view_int, view_non, dep_int, dep_non, cN, cN2, wipeT,   mk_true, mk_false, put_same, put_put,   List.map_cons, List.map_nil, List.length_cons, List.length_nil, List.replicate, List.cons_append, List.nil_append, List.append_nil, List.set_cons_zero, List.set_cons_succ, List.getElem?_cons_zero, List.getElem?_cons_succ, List.getElem?_nil, Nat.reduceAdd, Nat.reduceSub, Nat.reduceLeDiff, Nat.reduceLT, Nat.reduceEqDiff, Option.isSome_some, Option.isSome_none, true_and, and_true, if_true, if_false, Bool.false_eq_true, Bool.not_true, Bool.not_false, reduceCtorEq, Nat.zero_add, Nat.zero_le, decide_eq_true_eq, Bool.not_eq_true', decide_eq_false_iff_not, ite_true, ite_false, Bool.if_false_right, Bool.if_true_left, decide_true, decide_false, Bool.true_or, Bool.or_true, Bool.false_or, Bool.or_false, Bool.true_and, Bool.and_true, Bool.false_and, Bool.and_false, List.length_map, not_true_eq_false, not_false_eq_true, false_and, and_false, bne_self_eq_false, Bool.not_eq_false]
    refine forK_go (fun j s h' => ∃ x7 x8, s = [some (.lst (cs.map T.int)), some (.ref p), none, some (.ref p1), some (lastT last), some (.int (0 + i)), some (lastT (GM.pickTo left last j)), x7, x8] ∧ h' = put (put h p (.lst (left.map T.int))) p1 (.lst (found.map nI))) ⟨x7, x8, rfl, rfl⟩ ?_ ?_
    · -- behind the inner loop
      rintro s h' ⟨y7, y8, rfl, rfl⟩
      refine ⟨rp _ _, ?_⟩
      rw [enum_len, List.length_map]
      obtain ⟨b, nb, hb, hb0⟩ := GM.next_ok (last := last) lp (by omega)
      have hlb : left[b]? = some (left.getD b 0) := by
        rw [List.getD_eq_getElem?_getD, List.getElem?_eq_getElem hb]; rfl
      have hat : atI (left.map T.int) (b : Int) = some (.int (left.getD b 0)) := atI_map hlb
      have hix : ixN (left.map T.int).length (b : Int) = some b := ixN_nat (by rw [List.length_map]; exact hb)
      rw [List.length_map] at hix
      have hst : (left.map T.int).set b (.int (left.getD b 0 - 1)) = (GM.dec left b).map T.int := by unfold GM.dec; rw [List.map_set]
      have hlf : found.length < 1000000 := by omega
      have fin : ∃ left_1 last_1 found_1 x5 x6 x7 x8, [some (.lst (cs.map T.int)), some (.ref p), none, some (.ref p1), some (.int (b : Int)), some (.int (0 + (i : Int))), some (.int (b : Int)), y7, y8] = [some (T.lst (cs.map T.int)), some (T.ref p), none, some (T.ref p1), some (lastT last_1), x5, x6, x7, x8] ∧
          put (put h p (.lst ((GM.dec left b).map T.int))) p1 (.lst (found.map nI ++ [.int (b : Int)])) = put (put h p (.lst (left_1.map T.int))) p1 (.lst (found_1.map nI)) ∧ GM.pos left_1 ∧ left_1.length = cs.length ∧ left_1.sum = cs.sum - ((i + 1 : Nat) : Int) ∧ found_1.length = i + 1 ∧ found_1 ++ GM.go (cs.sum.toNat - (i + 1)) left_1 last_1 = GM.order cs := by
        refine ⟨GM.dec left b, some b, found ++ [b], _, _, _, _, rfl, by rw [List.map_append]; rfl, GM.dec_pos lp hb0, by rw [GM.dec_length]; exact ll, by rw [GM.dec_sum hb]; omega, by simp [lf], ?_⟩
        rw [← lo, show cs.sum.toNat - i = (cs.sum.toNat - (i + 1)) + 1 by omega]
        show found ++ [b] ++ _ = found ++ (match GM.nextOf left last with | some i => _ | none => _)
        rw [nb, List.append_assoc]
        rfl
      have pk : GM.pickTo left last left.length = GM.pick left last := rfl
      rw [pk]
      unfold GM.nextOf at nb
      cases z : GM.pick left last with
      | some b' =>
        rw [z] at nb
        cases nb
        simp only [lastT, hlf, rp, wp, hat, hix, hst, lim, ends, startT, eVar, eC, eOp, tOf, eChain, tAndM, tOrM, tNotM, eAndV, eOrV, eNotV, eIf, aNil, aCons, eTup, eLst, eFrz, frzK, oI, oIC, oSub, oMod, oDiv, oPow, oLt, oLe, oGt, oGe, oAdd, oMul, eNeg, oIsN, oNotN, oIx, atK, mNo, mPart, eSl, eCB, oLen, oInt, oSumL, oMax, oMin, oList, oBls, eCall, eBM, eBM0, isLs, oApp, oPop, oExt, lsOf, tTru, sNext, sSeq, sDrop, sRet, sRetN, sIf, sBreak, sCont, sNever, gN, gNil, gCons, gTup, setT, gSub, sAsg, sPar, sAug, oIxL, sAugS, oAddI, sFor, eLc, iSeq, iRange1, iRange2, iEnum, tYes, oIsi, kdOf, oEq, oNe, eqT_int, eqT_nn, eqT_in, eqT_ni,   atI_0, atI_1, atI_2, atI_3, atI_4, atI_5, atI_6, atI_7, atI_8, atI_m1, ixN_0, ixN_1,   kdN_int, kdN_bool, kdN_str, kdN_list, kdN_tuple, isK, view_int, view_non, dep_int, dep_non, cN, cN2, wipeT,   mk_true, mk_false, put_same, put_put,   List.map_cons, List.map_nil, List.length_cons, List.length_nil, List.replicate, List.cons_append, List.nil_append, List.append_nil, List.set_cons_zero, List.set_cons_succ, List.getElem?_cons_zero, List.getElem?_cons_succ, List.getElem?_nil, Nat.reduceAdd, Nat.reduceSub, Nat.reduceLeDiff, Nat.reduceLT, Nat.reduceEqDiff, Option.isSome_some, Option.isSome_none, true_and, and_true, if_true, if_false, Bool.false_eq_true, Bool.not_true, Bool.not_false, reduceCtorEq, Nat.zero_add, Nat.zero_le, decide_eq_true_eq, Bool.not_eq_true', decide_eq_false_iff_not, ite_true, ite_false, Bool.if_false_right, Bool.if_true_left, decide_true, decide_false, Bool.true_or, Bool.or_true, Bool.false_or, Bool.or_false, Bool.true_and, Bool.and_true, Bool.false_and, Bool.and_false, List.length_map, not_true_eq_false, not_false_eq_true, false_and, and_false, bne_self_eq_false, Bool.not_eq_false]
        exact fin
      | none =>
        rw [z] at nb
        cases last with
        | none => cases nb
        | some l =>
          cases nb
          simp only [lastT, hlf, rp, wp, hat, hix, hst, lim, ends, startT, eVar, eC, eOp, tOf, eChain, tAndM, tOrM, tNotM, eAndV, eOrV, eNotV, eIf, aNil, aCons, eTup, eLst, eFrz, frzK, oI, oIC, oSub, oMod, oDiv, oPow, oLt, oLe, oGt, oGe, oAdd, oMul, eNeg, oIsN, oNotN, oIx, atK, mNo, mPart, eSl, eCB, oLen, oInt, oSumL, oMax, oMin, oList, oBls, eCall, eBM, eBM0, isLs, oApp, oPop, oExt, lsOf, tTru, sNext, sSeq, sDrop, sRet, sRetN, sIf, sBreak, sCont, sNever, gN, gNil, gCons, gTup, setT, gSub, sAsg, sPar, sAug, oIxL, sAugS, oAddI, sFor, eLc, iSeq, iRange1, iRange2, iEnum, tYes, oIsi, kdOf, oEq, oNe, eqT_int, eqT_nn, eqT_in, eqT_ni,   atI_0, atI_1, atI_2, atI_3, atI_4, atI_5, atI_6, atI_7, atI_8, atI_m1, ixN_0, ixN_1,   kdN_int, kdN_bool, kdN_str, kdN_list, kdN_tuple, isK, view_int, view_non, dep_int, dep_non, cN, cN2, wipeT,   mk_true, mk_false, put_same, put_put,   List.map_cons, List.map_nil, List.length_cons, List.length_nil, List.replicate, List.cons_append, List.nil_append, List.append_nil, List.set_cons_zero, List.set_cons_succ, List.getElem?_cons_zero, List.getElem?_cons_succ, List.getElem?_nil, Nat.reduceAdd, Nat.reduceSub, Nat.reduceLeDiff, Nat.reduceLT, Nat.reduceEqDiff, Option.isSome_some, Option.isSome_none, true_and, and_true, if_true, if_false, Bool.false_eq_true, Bool.not_true, Bool.not_false, reduceCtorEq, Nat.zero_add, Nat.zero_le, decide_eq_true_eq, Bool.not_eq_true', decide_eq_false_iff_not, ite_true, ite_false, Bool.if_false_right, Bool.if_true_left, decide_true, decide_false, Bool.true_or, Bool.or_true, Bool.false_or, Bool.or_false, Bool.true_and, Bool.and_true, Bool.false_and, Bool.and_false, List.length_map, not_true_eq_false, not_false_eq_true, false_and, and_false, bne_self_eq_false, Bool.not_eq_false]
          exact fin
    · rintro j t s h' ej ⟨y7, y8, rfl, rfl⟩
      refine ⟨rp _ _, ?_⟩
      obtain ⟨x, ex, rfl⟩ := enum_at ej
      rw [List.getElem?_map] at ex
      cases z : left[j]? with
      | none => rw [z] at ex; cases ex
      | some c =>
        rw [z] at ex
        cases ex
        have gc : left.getD j 0 = c := getD_of z
        have fin : ∀ b : Option Nat, GM.pickTo left last (j + 1) = b → ∃ x7 x8, [some (.lst (cs.map T.int)), some (.ref p), none, some (.ref p1), some (lastT last), some (.int (0 + (i : Int))), some (lastT b), some (.int (j : Int)), some (.int c)] = [some (T.lst (cs.map T.int)), some (.ref p), none, some (.ref p1), some (lastT last), some (.int (0 + i)), some (lastT (GM.pickTo left last (j + 1))), x7, x8] := fun b e => ⟨_, _, by rw [e]⟩
        have step : GM.pickTo left last (j + 1) = GM.pickStep left last (GM.pickTo left last j) j := rfl
        unfold GM.pickStep at step
        rw [gc] at step
        have pb : ∀ b, GM.pickTo left last j = some b → atI (left.map T.int) (b : Int) = some (.int (left.getD b 0)) := fun b e => by
          have hb : b < left.length := by
            have := ((GM.pickTo_spec left last j).2 b e).1
            have hj' := (List.getElem?_eq_some_iff.mp z).1
            omega
          exact atI_map (by rw [List.getD_eq_getElem?_getD, List.getElem?_eq_getElem hb]; rfl)
        have yes : (some j ≠ last ∧ c > 0 ∧ (GM.pickTo left last j = none ∨ c > left.getD ((GM.pickTo left last j).getD 0) 0)) → GM.pickTo left last (j + 1) = some j := fun q => by rw [step, if_pos q]
        have no : ¬ (some j ≠ last ∧ c > 0 ∧ (GM.pickTo left last j = none ∨ c > left.getD ((GM.pickTo left last j).getD 0) 0)) → GM.pickTo left last (j + 1) = GM.pickTo left last j := fun q => by rw [step, if_neg q]
        cases last with
        | none =>
          cases w : GM.pickTo left none j with
          | none =>
            simp only [lastT, lim, ends, startT, eVar, eC, eOp, tOf, eChain, tAndM, tOrM, tNotM, eAndV, eOrV, eNotV, eIf, aNil, aCons, eTup, eLst, eFrz, frzK, oI, oIC, oSub, oMod, oDiv, oPow, oLt, oLe, oGt, oGe, oAdd, oMul, eNeg, oIsN, oNotN, oIx, atK, mNo, mPart, eSl, eCB, oLen, oInt, oSumL, oMax, oMin, oList, oBls, eCall, eBM, eBM0, isLs, oApp, oPop, oExt, lsOf, tTru, sNext, sSeq, sDrop, sRet, sRetN, sIf, sBreak, sCont, sNever, gN, gNil, gCons, gTup, setT, gSub, sAsg, sPar, sAug, oIxL, sAugS, oAddI, sFor, eLc, iSeq, iRange1, iRange2, iEnum, tYes, oIsi, kdOf, oEq, oNe, eqT_int, eqT_nn, eqT_in, eqT_ni,   atI_0, atI_1, atI_2, atI_3, atI_4, atI_5, atI_6, atI_7, atI_8, atI_m1, ixN_0, ixN_1,   kdN_int, kdN_bool, kdN_str, kdN_list, kdN_tuple, isK, view_int, view_non, dep_int, dep_non, cN, cN2, wipeT,   mk_true, mk_false, put_same, put_put,   List.map_cons, List.map_nil, List.length_cons, List.length_nil, List.replicate, List.cons_append, List.nil_append, List.append_nil, List.set_cons_zero, List.set_cons_succ, List.getElem?_cons_zero, List.getElem?_cons_succ, List.getElem?_nil, Nat.reduceAdd, Nat.reduceSub, Nat.reduceLeDiff, Nat.reduceLT, Nat.reduceEqDiff, Option.isSome_some, Option.isSome_none, true_and, and_true, if_true, if_false, Bool.false_eq_true, Bool.not_true, Bool.not_false, reduceCtorEq, Nat.zero_add, Nat.zero_le, decide_eq_true_eq, Bool.not_eq_true', decide_eq_false_iff_not, ite_true, ite_false, Bool.if_false_right, Bool.if_true_left, decide_true, decide_false, Bool.true_or, Bool.or_true, Bool.false_or, Bool.or_false, Bool.true_and, Bool.and_true, Bool.false_and, Bool.and_false, List.length_map, not_true_eq_false, not_false_eq_true, false_and, and_false, bne_self_eq_false, Bool.not_eq_false]
            split
            · rename_i c0
              exact fin _ (yes ⟨(fun q => nomatch q), c0, .inl w⟩)
            · rename_i c0
              exact fin none ((no fun q => c0 q.2.1).trans w)
          | some b =>
            simp only [lastT, rp, pb b w, lim, ends, startT, eVar, eC, eOp, tOf, eChain, tAndM, tOrM, tNotM, eAndV, eOrV, eNotV, eIf, aNil, aCons, eTup, eLst, eFrz, frzK, oI, oIC, oSub, oMod, oDiv, oPow, oLt, oLe, oGt, oGe, oAdd, oMul, eNeg, oIsN, oNotN, oIx, atK, mNo, mPart, eSl, eCB, oLen, oInt, oSumL, oMax, oMin, oList, oBls, eCall, eBM, eBM0, isLs, oApp, oPop, oExt, lsOf, tTru, sNext, sSeq, sDrop, sRet, sRetN, sIf, sBreak, sCont, sNever, gN, gNil, gCons, gTup, setT, gSub, sAsg, sPar, sAug, oIxL, sAugS, oAddI, sFor, eLc, iSeq, iRange1, iRange2, iEnum, tYes, oIsi, kdOf, oEq, oNe, eqT_int, eqT_nn, eqT_in, eqT_ni,   atI_0, atI_1, atI_2, atI_3, atI_4, atI_5, atI_6, atI_7, atI_8, atI_m1, ixN_0, ixN_1,   kdN_int, kdN_bool, kdN_str, kdN_list, kdN_tuple, isK, view_int, view_non, dep_int, dep_non, cN, cN2, wipeT,   mk_true, mk_false, put_same, put_put,   List.map_cons, List.map_nil, List.length_cons, List.length_nil, List.replicate, List.cons_append, List.nil_append, List.append_nil, List.set_cons_zero, List.set_cons_succ, List.getElem?_cons_zero, List.getElem?_cons_succ, List.getElem?_nil, Nat.reduceAdd, Nat.reduceSub, Nat.reduceLeDiff, Nat.reduceLT, Nat.reduceEqDiff, Option.isSome_some, Option.isSome_none, true_and, and_true, if_true, if_false, Bool.false_eq_true, Bool.not_true, Bool.not_false, reduceCtorEq, Nat.zero_add, Nat.zero_le, decide_eq_true_eq, Bool.not_eq_true', decide_eq_false_iff_not, ite_true, ite_false, Bool.if_false_right, Bool.if_true_left, decide_true, decide_false, Bool.true_or, Bool.or_true, Bool.false_or, Bool.or_false, Bool.true_and, Bool.and_true, Bool.false_and, Bool.and_false, List.length_map, not_true_eq_false, not_false_eq_true, false_and, and_false, bne_self_eq_false, Bool.not_eq_false]
            split
            · rename_i c0
              split
              · rename_i c1
                exact fin _ (yes ⟨(fun q => nomatch q), c0, .inr (by rw [w]; exact c1)⟩)
              · rename_i c1
                exact fin (some b) ((no fun q => q.2.2.elim (fun v => by rw [w] at v; cases v) fun v => c1 (by rw [w] at v; exact v)).trans w)
            · rename_i c0
              exact fin (some b) ((no fun q => c0 q.2.1).trans w)
        | some l =>
          by_cases cl : j = l
          · subst cl
            simp only [lastT, lim, ends, startT, eVar, eC, eOp, tOf, eChain, tAndM, tOrM, tNotM, eAndV, eOrV, eNotV, eIf, aNil, aCons, eTup, eLst, eFrz, frzK, oI, oIC, oSub, oMod, oDiv, oPow, oLt, oLe, oGt, oGe, oAdd, oMul, eNeg, oIsN, oNotN, oIx, atK, mNo, mPart, eSl, eCB, oLen, oInt, oSumL, oMax, oMin, oList, oBls, eCall, eBM, eBM0, isLs, oApp, oPop, oExt, lsOf, tTru, sNext, sSeq, sDrop, sRet, sRetN, sIf, sBreak, sCont, sNever, gN, gNil, gCons, gTup, setT, gSub, sAsg, sPar, sAug, oIxL, sAugS, oAddI, sFor, eLc, iSeq, iRange1, iRange2, iEnum, tYes, oIsi, kdOf, oEq, oNe, eqT_int, eqT_nn, eqT_in, eqT_ni,   atI_0, atI_1, atI_2, atI_3, atI_4, atI_5, atI_6, atI_7, atI_8, atI_m1, ixN_0, ixN_1,   kdN_int, kdN_bool, kdN_str, kdN_list, kdN_tuple, isK, view_int, view_non, dep_int, dep_non, cN, cN2, wipeT,   mk_true, mk_false, put_same, put_put,   List.map_cons, List.map_nil, List.length_cons, List.length_nil, List.replicate, List.cons_append, List.nil_append, List.append_nil, List.set_cons_zero, List.set_cons_succ, List.getElem?_cons_zero, List.getElem?_cons_succ, List.getElem?_nil, Nat.reduceAdd, Nat.reduceSub, Nat.reduceLeDiff, Nat.reduceLT, Nat.reduceEqDiff, Option.isSome_some, Option.isSome_none, true_and, and_true, if_true, if_false, Bool.false_eq_true, Bool.not_true, Bool.not_false, reduceCtorEq, Nat.zero_add, Nat.zero_le, decide_eq_true_eq, Bool.not_eq_true', decide_eq_false_iff_not, ite_true, ite_false, Bool.if_false_right, Bool.if_true_left, decide_true, decide_false, Bool.true_or, Bool.or_true, Bool.false_or, Bool.or_false, Bool.true_and, Bool.and_true, Bool.false_and, Bool.and_false, List.length_map, not_true_eq_false, not_false_eq_true, false_and, and_false, bne_self_eq_false, Bool.not_eq_false]
            exact fin _ (no fun q => q.1 rfl)
          · have cl' : ¬ ((j : Int) = (l : Int)) := by omega
            have cl2 : some j ≠ some l := fun q => cl (Option.some.inj q)
            cases w : GM.pickTo left (some l) j with
            | none =>
              simp only [lastT, cl', lim, ends, startT, eVar, eC, eOp, tOf, eChain, tAndM, tOrM, tNotM, eAndV, eOrV, eNotV, eIf, aNil, aCons, eTup, eLst, eFrz, frzK, oI, oIC, oSub, oMod, oDiv, oPow, oLt, oLe, oGt, oGe, oAdd, oMul, eNeg, oIsN, oNotN, oIx, atK, mNo, mPart, eSl, eCB, oLen, oInt, oSumL, oMax, oMin, oList, oBls, eCall, eBM, eBM0, isLs, oApp, oPop, oExt, lsOf, tTru, sNext, sSeq, sDrop, sRet, sRetN, sIf, sBreak, sCont, sNever, gN, gNil, gCons, gTup, setT, gSub, sAsg, sPar, sAug, oIxL, sAugS, oAddI, sFor, eLc, iSeq, iRange1, iRange2, iEnum, tYes, oIsi, kdOf, oEq, oNe, eqT_int, eqT_nn, eqT_in, eqT_ni,   atI_0, atI_1, atI_2, atI_3, atI_4, atI_5, atI_6, atI_7, atI_8, atI_m1, ixN_0, ixN_1,   kdN_int, kdN_bool, kdN_str, kdN_list, kdN_tuple, isK, view_int, view_non, dep_int, dep_non, cN, cN2, wipeT,   mk_true, mk_false, put_same, put_put,   List.map_cons, List.map_nil, List.length_cons, List.length_nil, List.replicate, List.cons_append, List.nil_append, List.append_nil, List.set_cons_zero, List.set_cons_succ, List.getElem?_cons_zero, List.getElem?_cons_succ, List.getElem?_nil, Nat.reduceAdd, Nat.reduceSub, Nat.reduceLeDiff, Nat.reduceLT, Nat.reduceEqDiff, Option.isSome_some, Option.isSome_none, true_and, and_true, if_true, if_false, Bool.false_eq_true, Bool.not_true, Bool.not_false, reduceCtorEq, Nat.zero_add, Nat.zero_le, decide_eq_true_eq, Bool.not_eq_true', decide_eq_false_iff_not, ite_true, ite_false, Bool.if_false_right, Bool.if_true_left, decide_true, decide_false, Bool.true_or, Bool.or_true, Bool.false_or, Bool.or_false, Bool.true_and, Bool.and_true, Bool.false_and, Bool.and_false, List.length_map, not_true_eq_false, not_false_eq_true, false_and, and_false, bne_self_eq_false, Bool.not_eq_false]
              split
              · rename_i c0
                exact fin _ (yes ⟨cl2, c0, .inl w⟩)
              · rename_i c0
                exact fin none ((no fun q => c0 q.2.1).trans w)
            | some b =>
              simp only [lastT, rp, pb b w, cl', lim, ends, startT, eVar, eC, eOp, tOf, eChain, tAndM, tOrM, tNotM, eAndV, eOrV, eNotV, eIf, aNil, aCons, eTup, eLst, eFrz, frzK, oI, oIC, oSub, oMod, oDiv, oPow, oLt, oLe, oGt, oGe, oAdd, oMul, eNeg, oIsN, oNotN, oIx, atK, mNo, mPart, eSl, eCB, oLen, oInt, oSumL, oMax, oMin, oList, oBls, eCall, eBM, eBM0, isLs, oApp, oPop, oExt, lsOf, tTru, sNext, sSeq, sDrop, sRet, sRetN, sIf, sBreak, sCont, sNever, gN, gNil, gCons, gTup, setT, gSub, sAsg, sPar, sAug, oIxL, sAugS, oAddI, sFor, eLc, iSeq, iRange1, iRange2, iEnum, tYes, oIsi, kdOf, oEq, oNe, eqT_int, eqT_nn, eqT_in, eqT_ni,   atI_0, atI_1, atI_2, atI_3, atI_4, atI_5, atI_6, atI_7, atI_8, atI_m1, ixN_0, ixN_1,   kdN_int, kdN_bool, kdN_str, kdN_list, kdN_tuple, isK, view_int, view_non, dep_int, dep_non, cN, cN2, wipeT,   mk_true, mk_false, put_same, put_put,   List.map_cons, List.map_nil, List.length_cons, List.length_nil, List.replicate, List.cons_append, List.nil_append, List.append_nil, List.set_cons_zero, List.set_cons_succ, List.getElem?_cons_zero, List.getElem?_cons_succ, List.getElem?_nil, Nat.reduceAdd, Nat.reduceSub, Nat.reduceLeDiff, Nat.reduceLT, Nat.reduceEqDiff, Option.isSome_some, Option.isSome_none, true_and, and_true, if_true, if_false, Bool.false_eq_true, Bool.not_true, Bool.not_false, reduceCtorEq, Nat.zero_add, Nat.zero_le, decide_eq_true_eq, Bool.not_eq_true', decide_eq_false_iff_not, ite_true, ite_false, Bool.if_false_right, Bool.if_true_left, decide_true, decide_false, Bool.true_or, Bool.or_true, Bool.false_or, Bool.or_false, Bool.true_and, Bool.and_true, Bool.false_and, Bool.and_false, List.length_map, not_true_eq_false, not_false_eq_true, false_and, and_false, bne_self_eq_false, Bool.not_eq_false]
              split
              · rename_i c0
                split
                · rename_i c1
                  exact fin _ (yes ⟨cl2, c0, .inr (by rw [w]; exact c1)⟩)
                · rename_i c1
                  exact fin (some b) ((no fun q => q.2.2.elim (fun v => by rw [w] at v; cases v) fun v => c1 (by rw [w] at v; exact v)).trans w)
              · rename_i c0
                exact fin (some b) ((no fun q => c0 q.2.1).trans w)
theorem pl_law_groups : ∀ ts h Q E, ts.length = 1 → C_law_groups ts h Q E → B_law_groups (ends Q E) (startT N_law_groups.length ts) h := by
  rintro ts h Q E - ⟨xs, rfl, hl, q⟩
  unfold B_law_groups
  have hl' : (xs.length : Int) ≤ 1000000 := by omega
  have hl0 : (-1000000 : Int) ≤ xs.length := by omega
  simp only [hl', hl0, Int.toNat_natCast, lim, ends, startT, eVar, eC, eOp, tOf, eChain, tAndM, tOrM, tNotM, eAndV, eOrV, eNotV, eIf, aNil, aCons, eTup, eLst, eFrz, frzK, oI, oIC, oSub, oMod, oDiv, oPow, oLt, oLe, oGt, oGe, oAdd, oMul, eNeg, oIsN, oNotN, oIx, atK, mNo, mPart, eSl, eCB, oLen, oInt, oSumL, oMax, oMin, oList, oBls, eCall, eBM, eBM0, isLs, oApp, oPop, oExt, lsOf, tTru, sNext, sSeq, sDrop, sRet, sRetN, sIf, sBreak, sCont, sNever, gN, gNil, gCons, gTup, setT, gSub, sAsg, sPar, sAug, oIxL, sAugS, oAddI, sFor, eLc, iSeq, iRange1, iRange2, iEnum, tYes, oIsi, kdOf, oEq, oNe, eqT_int, eqT_nn, eqT_in, eqT_ni,   atI_0, atI_1, atI_2, atI_3, atI_4, atI_5, atI_6, atI_7, atI_8, atI_m1, ixN_0, ixN_1,   kdN_int, kdN_bool, kdN_str, kdN_list, kdN_tuple, isK, view_int, view_non, dep_int, dep_non, cN, cN2, wipeT,   mk_true, mk_false, put_same, put_put,   List.map_cons, List.map_nil, List.length_cons, List.length_nil, List.replicate, List.cons_append, List.nil_append, List.append_nil, List.set_cons_zero, List.set_cons_succ, List.getElem?_cons_zero, List.getElem?_cons_succ, List.getElem?_nil, Nat.reduceAdd, Nat.reduceSub, Nat.reduceLeDiff, Nat.reduceLT, Nat.reduceEqDiff, Option.isSome_some, Option.isSome_none, true_and, and_true, if_true, if_false, Bool.false_eq_true, Bool.not_true, Bool.not_false, reduceCtorEq, Nat.zero_add, Nat.zero_le, decide_eq_true_eq, Bool.not_eq_true', decide_eq_false_iff_not, ite_true, ite_false, Bool.if_false_right, Bool.if_true_left, decide_true, decide_false, Bool.true_or, Bool.or_true, Bool.false_or, Bool.or_false, Bool.true_and, Bool.and_true, Bool.false_and, Bool.and_false, List.length_map, not_true_eq_false, not_false_eq_true, false_and, and_false, bne_self_eq_false, Bool.not_eq_false]
  refine lcK_pure (fun t => match t with
    | .int k => if GM.grp xs k.toNat = true then some t else none
    | _ => none) trivial (by rw [rng_len]; omega) (fun t ht R r => ?_) ?_
  · obtain ⟨i, hi0⟩ := List.getElem?_of_mem ht
    obtain ⟨hi, rfl⟩ := rng_at hi0
    have e0 : (0 + (i : Int)) = (i : Int) := by omega
    have g0 : atI (xs.map nI) (i : Int) = some (nI xs[i]) := atI_map (List.getElem?_eq_getElem hi)
    rw [e0] at r ⊢
    simp only [g0, lim, ends, startT, eVar, eC, eOp, tOf, eChain, tAndM, tOrM, tNotM, eAndV, eOrV, eNotV, eIf, aNil, aCons, eTup, eLst, eFrz, frzK, oI, oIC, oSub, oMod, oDiv, oPow, oLt, oLe, oGt, oGe, oAdd, oMul, eNeg, oIsN, oNotN, oIx, atK, mNo, mPart, eSl, eCB, oLen, oInt, oSumL, oMax, oMin, oList, oBls, eCall, eBM, eBM0, isLs, oApp, oPop, oExt, lsOf, tTru, sNext, sSeq, sDrop, sRet, sRetN, sIf, sBreak, sCont, sNever, gN, gNil, gCons, gTup, setT, gSub, sAsg, sPar, sAug, oIxL, sAugS, oAddI, sFor, eLc, iSeq, iRange1, iRange2, iEnum, tYes, oIsi, kdOf, oEq, oNe, eqT_int, eqT_nn, eqT_in, eqT_ni,   atI_0, atI_1, atI_2, atI_3, atI_4, atI_5, atI_6, atI_7, atI_8, atI_m1, ixN_0, ixN_1,   kdN_int, kdN_bool, kdN_str, kdN_list, kdN_tuple, isK, view_int, view_non, dep_int, dep_non, cN, cN2, wipeT,   mk_true, mk_false, put_same, put_put,   List.map_cons, List.map_nil, List.length_cons, List.length_nil, List.replicate, List.cons_append, List.nil_append, List.append_nil, List.set_cons_zero, List.set_cons_succ, List.getElem?_cons_zero, List.getElem?_cons_succ, List.getElem?_nil, Nat.reduceAdd, Nat.reduceSub, Nat.reduceLeDiff, Nat.reduceLT, Nat.reduceEqDiff, Option.isSome_some, Option.isSome_none, true_and, and_true, if_true, if_false, Bool.false_eq_true, Bool.not_true, Bool.not_false, reduceCtorEq, Nat.zero_add, Nat.zero_le, decide_eq_true_eq, Bool.not_eq_true', decide_eq_false_iff_not, ite_true, ite_false, Bool.if_false_right, Bool.if_true_left, decide_true, decide_false, Bool.true_or, Bool.or_true, Bool.false_or, Bool.or_false, Bool.true_and, Bool.and_true, Bool.false_and, Bool.and_false, List.length_map, not_true_eq_false, not_false_eq_true, false_and, and_false, bne_self_eq_false, Bool.not_eq_false]
    simp only [Int.toNat_natCast] at r
    cases i with
    | zero =>
      have hg : GM.grp xs 0 = true := rfl
      simp only [hg, if_true] at r
      simp
      exact r
    | succ i =>
      have h1 : i < xs.length := by omega
      have e1 : ((i + 1 : Nat) : Int) - 1 = (i : Int) := by omega
      have g1 : atI (xs.map nI) (i : Int) = some (nI xs[i]) := atI_map (List.getElem?_eq_getElem h1)
      have e2 : ¬ (((i + 1 : Nat) : Int) = 0) := by omega
      have hg : GM.grp xs (i + 1) = decide (xs[i + 1] ≠ xs[i]) := by
        unfold GM.grp
        rw [show i + 1 - 1 = i by omega, List.getElem?_eq_getElem hi, List.getElem?_eq_getElem h1]
        simp
      simp only [e1, g1, nI, e2, lim, ends, startT, eVar, eC, eOp, tOf, eChain, tAndM, tOrM, tNotM, eAndV, eOrV, eNotV, eIf, aNil, aCons, eTup, eLst, eFrz, frzK, oI, oIC, oSub, oMod, oDiv, oPow, oLt, oLe, oGt, oGe, oAdd, oMul, eNeg, oIsN, oNotN, oIx, atK, mNo, mPart, eSl, eCB, oLen, oInt, oSumL, oMax, oMin, oList, oBls, eCall, eBM, eBM0, isLs, oApp, oPop, oExt, lsOf, tTru, sNext, sSeq, sDrop, sRet, sRetN, sIf, sBreak, sCont, sNever, gN, gNil, gCons, gTup, setT, gSub, sAsg, sPar, sAug, oIxL, sAugS, oAddI, sFor, eLc, iSeq, iRange1, iRange2, iEnum, tYes, oIsi, kdOf, oEq, oNe, eqT_int, eqT_nn, eqT_in, eqT_ni,   atI_0, atI_1, atI_2, atI_3, atI_4, atI_5, atI_6, atI_7, atI_8, atI_m1, ixN_0, ixN_1,   kdN_int, kdN_bool, kdN_str, kdN_list, kdN_tuple, isK, view_int, view_non, dep_int, dep_non, cN, cN2, wipeT,   mk_true, mk_false, put_same, put_put,   List.map_cons, List.map_nil, List.length_cons, List.length_nil, List.replicate, List.cons_append, List.nil_append, List.append_nil, List.set_cons_zero, List.set_cons_succ, List.getElem?_cons_zero, List.getElem?_cons_succ, List.getElem?_nil, Nat.reduceAdd, Nat.reduceSub, Nat.reduceLeDiff, Nat.reduceLT, Nat.reduceEqDiff, Option.isSome_some, Option.isSome_none, true_and, and_true, if_true, if_false, Bool.false_eq_true, Bool.not_true, Bool.not_false, reduceCtorEq, Nat.zero_add, Nat.zero_le, decide_eq_true_eq, Bool.not_eq_true', decide_eq_false_iff_not, ite_true, ite_false, Bool.if_false_right, Bool.if_true_left, decide_true, decide_false, Bool.true_or, Bool.or_true, Bool.false_or, Bool.or_false, Bool.true_and, Bool.and_true, Bool.false_and, Bool.and_false, List.length_map, not_true_eq_false, not_false_eq_true, false_and, and_false, bne_self_eq_false, Bool.not_eq_false]
      by_cases c : xs[i + 1] = xs[i]
      · simp [c, hg] at r ⊢; exact r
      · have c' : ¬ ((xs[i + 1] : Int) = (xs[i] : Int)) := by omega
        simp [c, c', hg] at r ⊢; exact r
  · rw [mk_true]
    simp only [ends, lim, ends, startT, eVar, eC, eOp, tOf, eChain, tAndM, tOrM, tNotM, eAndV, eOrV, eNotV, eIf, aNil, aCons, eTup, eLst, eFrz, frzK, oI, oIC, oSub, oMod, oDiv, oPow, oLt, oLe, oGt, oGe, oAdd, oMul, eNeg, oIsN, oNotN, oIx, atK, mNo, mPart, eSl, eCB, oLen, oInt, oSumL, oMax, oMin, oList, oBls, eCall, eBM, eBM0, isLs, oApp, oPop, oExt, lsOf, tTru, sNext, sSeq, sDrop, sRet, sRetN, sIf, sBreak, sCont, sNever, gN, gNil, gCons, gTup, setT, gSub, sAsg, sPar, sAug, oIxL, sAugS, oAddI, sFor, eLc, iSeq, iRange1, iRange2, iEnum, tYes, oIsi, kdOf, oEq, oNe, eqT_int, eqT_nn, eqT_in, eqT_ni,   atI_0, atI_1, atI_2, atI_3, atI_4, atI_5, atI_6, atI_7, atI_8, atI_m1, ixN_0, ixN_1,   kdN_int, kdN_bool, kdN_str, kdN_list, kdN_tuple, isK, view_int, view_non, dep_int, dep_non, cN, cN2, wipeT,   mk_true, mk_false, put_same, put_put,   List.map_cons, List.map_nil, List.length_cons, List.length_nil, List.replicate, List.cons_append, List.nil_append, List.append_nil, List.set_cons_zero, List.set_cons_succ, List.getElem?_cons_zero, List.getElem?_cons_succ, List.getElem?_nil, Nat.reduceAdd, Nat.reduceSub, Nat.reduceLeDiff, Nat.reduceLT, Nat.reduceEqDiff, Option.isSome_some, Option.isSome_none, true_and, and_true, if_true, if_false, Bool.false_eq_true, Bool.not_true, Bool.not_false, reduceCtorEq, Nat.zero_add, Nat.zero_le, decide_eq_true_eq, Bool.not_eq_true', decide_eq_false_iff_not, ite_true, ite_false, Bool.if_false_right, Bool.if_true_left, decide_true, decide_false, Bool.true_or, Bool.or_true, Bool.false_or, Bool.or_false, Bool.true_and, Bool.and_true, Bool.false_and, Bool.and_false, List.length_map, not_true_eq_false, not_false_eq_true, false_and, and_false, bne_self_eq_false, Bool.not_eq_false]
    have e : (List.filterMap (fun t => match t with
      | .int k => if GM.grp xs k.toNat = true then some t else none
      | _ => none) (rng 0 xs.length)).length = GM.changes none xs := by
      rw [← GM.grp_count]
      unfold rng
      rw [List.filterMap_map]
      have e2 : ((fun t => match t with
        | T.int k => if GM.grp xs k.toNat = true then some t else none
        | _ => none) ∘ fun (i : Nat) => T.int (0 + i)) = fun k => if GM.grp xs k = true then some (T.int (0 + (k : Int))) else none := by
        funext k
        simp only [Function.comp, Int.zero_add, Int.toNat_natCast]
      rw [e2, filterMap_ite, List.length_map]
    rw [e]
    exact dn_self q
theorem cut_set (xs : List T) (a : Nat) (v : T) (h : a < xs.length) : cutT xs none (some (a : Int)) ++ [v] ++ cutT xs (some ((a : Int) + 1)) none = xs.set a v := by
  unfold cutT
  rw [HT.sIx_none, HT.sIx_none, HT.sIx_nat, show ((a : Int) + 1) = ((a + 1 : Nat) : Int) by omega, HT.sIx_nat, Nat.min_eq_left (by omega), Nat.min_eq_left (by omega), Nat.sub_zero, List.drop_zero]
  rw [List.take_of_length_le (l := xs.drop (a + 1)) (by rw [List.length_drop]; omega), List.set_eq_take_append_cons_drop, if_pos h, List.append_assoc]
  rfl
theorem nI_cln (n : Nat) (xs : List Nat) : cln (n + 2) (.lst (xs.map nI)) = true := by
  show (xs.map nI).all (cln (n + 1)) = true
  rw [List.all_eq_true]
  intro t ht
  obtain ⟨i, _, rfl⟩ := List.mem_map.mp ht
  rfl
theorem view_lst {h : Hq} {ts : List T} : view h (.lst ts) = .lst ts := rfl
theorem max_at : ∀ {cs : List Int}, cs ≠ [] → ∃ m, m < cs.length ∧ ∀ i, cs.getD i 0 ≤ cs.getD m 0 ∨ cs.length ≤ i
  | [], h => absurd rfl h
  | [c], _ => ⟨0, by simp, fun i => by cases i with
    | zero => exact .inl (Int.le_refl _)
    | succ i => right; simp⟩
  | c :: d :: cs, _ => by
    obtain ⟨m, h1, h2⟩ := max_at (cs := d :: cs) (fun q => nomatch q)
    by_cases e : (d :: cs).getD m 0 ≤ c
    · refine ⟨0, by simp, fun i => ?_⟩
      cases i with
      | zero => exact .inl (Int.le_refl _)
      | succ i =>
        rcases h2 i with z | z
        · exact .inl (Int.le_trans z e)
        · exact .inr (by simpa using z)
    · refine ⟨m + 1, by simpa using h1, fun i => ?_⟩
      cases i with
      | zero => exact .inl (by show c ≤ (d :: cs).getD m 0; omega)
      | succ i =>
        rcases h2 i with z | z
        · exact .inl z
        · exact .inr (by simpa using z)
theorem max_all {cs : List Int} (hp : GM.pos cs) (hn : cs ≠ []) : ∃ m, ∀ i, cs.getD i 0 ≤ cs.getD m 0 := by
  obtain ⟨m, h1, h2⟩ := max_at hn
  refine ⟨m, fun i => (h2 i).elim id fun z => ?_⟩
  rw [GM.getD_out z]
  exact GM.pos_getD hp m
theorem ci_cln (n : Nat) (xs : List Int) : cln (n + 2) (.lst (xs.map T.int)) = true := by
  show (xs.map T.int).all (cln (n + 1)) = true
  rw [List.all_eq_true]
  intro t ht
  obtain ⟨i, _, rfl⟩ := List.mem_map.mp ht
  rfl
theorem eqT_refl {n : Nat} {x : T} (h : cln n x = true) : eqT x x = true := (eqT_iff n x x h h).mpr rfl
/-- every item is one of those that P tells -/
theorem lcK_any {fl : Bool} {ts : List T} {stay : Hq → Prop} {g : T → Sl → Option Sl} {el : EM} {s : Sl} {h : Hq} {Q : TK} (P : T → Prop) (hst : stay h) (hl : ts.length ≤ 1000000)
    (hs : ∀ t ∈ ts, ∀ R : TK, (∀ y, P y → R y h) → match g t s with
      | some s2 => el s2 h R E0
      | none => False) (hQ : ∀ ys : List T, ys.length = ts.length → (∀ y ∈ ys, P y) → mk fl ys h Q) : LcK fl ts stay g tYes el s h Q := by
  refine ⟨fun i acc h' => acc.length = i ∧ (∀ y ∈ acc, P y) ∧ h' = h, ⟨rfl, (fun _ z => nomatch z), rfl⟩, ?_⟩
  rintro i acc h' hi ⟨ha, hp, rfl⟩
  refine ⟨hst, ?_⟩
  cases e : ts[i]? with
  | none =>
    have := List.getElem?_eq_none_iff.mp e
    exact hQ acc (by omega) hp
  | some t =>
    have hi' : i < ts.length := (List.getElem?_eq_some_iff.mp e).1
    refine ⟨show acc.length < 1000000 by omega, ?_⟩
    have q := hs t (List.mem_of_getElem? e) (fun y h4 => (acc ++ [y]).length = i + 1 ∧ (∀ z ∈ acc ++ [y], P z) ∧ h4 = h') (fun y hy => ⟨by simp [ha], fun z hz => by
      rcases List.mem_append.mp hz with w | w
      · exact hp z w
      · have : z = y := by simpa using w
        rw [this]; exact hy, rfl⟩)
    cases es : g t s with
    | none => rw [es] at q; exact q.elim
    | some s2 => rw [es] at q; exact iteT (B := acc.length = i + 1 ∧ (∀ y ∈ acc, P y) ∧ h' = h') q
section
variable {K : PySem.W.Frag} {mg : Str → Option Value} {a : Ad}
theorem pl_check_sizes (Z : Tx K mg a) : ∀ ts h Q E, ts.length = 2 → C_check_sizes a ts h Q E → B_check_sizes K a (ends Q E) (startT N_check_sizes.length ts) h := by
  rintro ts h Q E - ⟨t, m, rfl, hh⟩
  unfold B_check_sizes
  rcases hh with ⟨cs, rfl, l1, l8, hc, q⟩ | ⟨cs, x, r, k, rfl, l8, hc, hk, hx, q⟩ | ⟨ho, q⟩
  · have hl1 : (1 : Int) ≤ cs.length := by omega
    have hl8 : (cs.length : Int) ≤ 8 := by omega
    simp only [hl1, hl8, lim, ends, startT, eVar, eC, eOp, tOf, eChain, tAndM, tOrM, tNotM, eAndV, eOrV, eNotV, eIf, aNil, aCons, eTup, eLst, eFrz, frzK, oI, oIC, oSub, oMod, oDiv, oPow, oLt, oLe, oGt, oGe, oAdd, oMul, eNeg, oIsN, oNotN, oIx, atK, mNo, mPart, eSl, eCB, oLen, oInt, oSumL, oMax, oMin, oList, oBls, eCall, eBM, eBM0, isLs, oApp, oPop, oExt, lsOf, tTru, sNext, sSeq, sDrop, sRet, sRetN, sIf, sBreak, sCont, sNever, gN, gNil, gCons, gTup, setT, gSub, sAsg, sPar, sAug, oIxL, sAugS, oAddI, sFor, eLc, iSeq, iRange1, iRange2, iEnum, tYes, oIsi, kdOf, oEq, oNe, eqT_int, eqT_nn, eqT_in, eqT_ni,   atI_0, atI_1, atI_2, atI_3, atI_4, atI_5, atI_6, atI_7, atI_8, atI_m1, ixN_0, ixN_1,   kdN_int, kdN_bool, kdN_str, kdN_list, kdN_tuple, isK, view_int, view_non, dep_int, dep_non, cN, cN2, wipeT,   mk_true, mk_false, put_same, put_put,   List.map_cons, List.map_nil, List.length_cons, List.length_nil, List.replicate, List.cons_append, List.nil_append, List.append_nil, List.set_cons_zero, List.set_cons_succ, List.getElem?_cons_zero, List.getElem?_cons_succ, List.getElem?_nil, Nat.reduceAdd, Nat.reduceSub, Nat.reduceLeDiff, Nat.reduceLT, Nat.reduceEqDiff, Option.isSome_some, Option.isSome_none, true_and, and_true, if_true, if_false, Bool.false_eq_true, Bool.not_true, Bool.not_false, reduceCtorEq, Nat.zero_add, Nat.zero_le, decide_eq_true_eq, Bool.not_eq_true', decide_eq_false_iff_not, ite_true, ite_false, Bool.if_false_right, Bool.if_true_left, decide_true, decide_false, Bool.true_or, Bool.or_true, Bool.false_or, Bool.or_false, Bool.true_and, Bool.and_true, Bool.false_and, Bool.and_false, List.length_map, not_true_eq_false, not_false_eq_true, false_and, and_false, bne_self_eq_false, Bool.not_eq_false]
    refine forK_go (fun i s h' => h' = h ∧ ∃ a b, s = [some (.lst (cs.map T.int)), some (.int m), a, b]) ⟨rfl, none, none, rfl⟩ ?_ ?_
    · rintro s h' ⟨rfl, a, b, rfl⟩
      exact ⟨trivial, dn_self q⟩
    · rintro i t s h' e ⟨rfl, a, b, rfl⟩
      refine ⟨trivial, ?_⟩
      obtain ⟨x, ex, rfl⟩ := enum_at e
      rw [List.getElem?_map] at ex
      cases z : cs[i]? with
      | none => rw [z] at ex; cases ex
      | some c =>
        rw [z] at ex
        cases ex
        obtain ⟨c0, c1⟩ := hc c (List.mem_of_getElem? z)
        simp only [C_is_integer, lim, ends, startT, eVar, eC, eOp, tOf, eChain, tAndM, tOrM, tNotM, eAndV, eOrV, eNotV, eIf, aNil, aCons, eTup, eLst, eFrz, frzK, oI, oIC, oSub, oMod, oDiv, oPow, oLt, oLe, oGt, oGe, oAdd, oMul, eNeg, oIsN, oNotN, oIx, atK, mNo, mPart, eSl, eCB, oLen, oInt, oSumL, oMax, oMin, oList, oBls, eCall, eBM, eBM0, isLs, oApp, oPop, oExt, lsOf, tTru, sNext, sSeq, sDrop, sRet, sRetN, sIf, sBreak, sCont, sNever, gN, gNil, gCons, gTup, setT, gSub, sAsg, sPar, sAug, oIxL, sAugS, oAddI, sFor, eLc, iSeq, iRange1, iRange2, iEnum, tYes, oIsi, kdOf, oEq, oNe, eqT_int, eqT_nn, eqT_in, eqT_ni,   atI_0, atI_1, atI_2, atI_3, atI_4, atI_5, atI_6, atI_7, atI_8, atI_m1, ixN_0, ixN_1,   kdN_int, kdN_bool, kdN_str, kdN_list, kdN_tuple, isK, view_int, view_non, dep_int, dep_non, cN, cN2, wipeT,   mk_true, mk_false, put_same, put_put,   List.map_cons, List.map_nil, List.length_cons, List.length_nil, List.replicate, List.cons_append, List.nil_append, List.append_nil, List.set_cons_zero, List.set_cons_succ, List.getElem?_cons_zero, List.getElem?_cons_succ, List.getElem?_nil, Nat.reduceAdd, Nat.reduceSub, Nat.reduceLeDiff, Nat.reduceLT, Nat.reduceEqDiff, Option.isSome_some, Option.isSome_none, true_and, and_true, if_true, if_false, Bool.false_eq_true, Bool.not_true, Bool.not_false, reduceCtorEq, Nat.zero_add, Nat.zero_le, decide_eq_true_eq, Bool.not_eq_true', decide_eq_false_iff_not, ite_true, ite_false, Bool.if_false_right, Bool.if_true_left, decide_true, decide_false, Bool.true_or, Bool.or_true, Bool.false_or, Bool.or_false, Bool.true_and, Bool.and_true, Bool.false_and, Bool.and_false, List.length_map, not_true_eq_false, not_false_eq_true, false_and, and_false, bne_self_eq_false, Bool.not_eq_false]
        refine ⟨.int c, 0, m, .int, rfl, rfl, ?_⟩
        simp only [isInt, c0, c1, lim, ends, startT, eVar, eC, eOp, tOf, eChain, tAndM, tOrM, tNotM, eAndV, eOrV, eNotV, eIf, aNil, aCons, eTup, eLst, eFrz, frzK, oI, oIC, oSub, oMod, oDiv, oPow, oLt, oLe, oGt, oGe, oAdd, oMul, eNeg, oIsN, oNotN, oIx, atK, mNo, mPart, eSl, eCB, oLen, oInt, oSumL, oMax, oMin, oList, oBls, eCall, eBM, eBM0, isLs, oApp, oPop, oExt, lsOf, tTru, sNext, sSeq, sDrop, sRet, sRetN, sIf, sBreak, sCont, sNever, gN, gNil, gCons, gTup, setT, gSub, sAsg, sPar, sAug, oIxL, sAugS, oAddI, sFor, eLc, iSeq, iRange1, iRange2, iEnum, tYes, oIsi, kdOf, oEq, oNe, eqT_int, eqT_nn, eqT_in, eqT_ni,   atI_0, atI_1, atI_2, atI_3, atI_4, atI_5, atI_6, atI_7, atI_8, atI_m1, ixN_0, ixN_1,   kdN_int, kdN_bool, kdN_str, kdN_list, kdN_tuple, isK, view_int, view_non, dep_int, dep_non, cN, cN2, wipeT,   mk_true, mk_false, put_same, put_put,   List.map_cons, List.map_nil, List.length_cons, List.length_nil, List.replicate, List.cons_append, List.nil_append, List.append_nil, List.set_cons_zero, List.set_cons_succ, List.getElem?_cons_zero, List.getElem?_cons_succ, List.getElem?_nil, Nat.reduceAdd, Nat.reduceSub, Nat.reduceLeDiff, Nat.reduceLT, Nat.reduceEqDiff, Option.isSome_some, Option.isSome_none, true_and, and_true, if_true, if_false, Bool.false_eq_true, Bool.not_true, Bool.not_false, reduceCtorEq, Nat.zero_add, Nat.zero_le, decide_eq_true_eq, Bool.not_eq_true', decide_eq_false_iff_not, ite_true, ite_false, Bool.if_false_right, Bool.if_true_left, decide_true, decide_false, Bool.true_or, Bool.or_true, Bool.false_or, Bool.or_false, Bool.true_and, Bool.and_true, Bool.false_and, Bool.and_false, List.length_map, not_true_eq_false, not_false_eq_true, false_and, and_false, bne_self_eq_false, Bool.not_eq_false]
        exact ⟨_, _, rfl⟩
  · have hL : (cs.map T.int ++ x :: r).length = cs.length + (r.length + 1) := by simp
    have hix : (cs.map T.int ++ x :: r)[cs.length]? = some x := by
      rw [List.getElem?_append_right (by simp)]; simp
    have hin : ∀ i, i < cs.length → ∃ c, 0 ≤ c ∧ c ≤ m ∧ (cs.map T.int ++ x :: r)[i]? = some (.int c) := fun i hi => by
      refine ⟨cs[i], (hc _ (List.getElem_mem hi)).1, (hc _ (List.getElem_mem hi)).2, ?_⟩
      rw [List.getElem?_append_left (by simpa using hi), List.getElem?_map, List.getElem?_eq_getElem hi]; rfl
    generalize cs.map T.int ++ x :: r = L at *
    have hl1 : (1 : Int) ≤ L.length := by omega
    have hl8 : (L.length : Int) ≤ 8 := by omega
    simp only [hl1, hl8, lim, ends, startT, eVar, eC, eOp, tOf, eChain, tAndM, tOrM, tNotM, eAndV, eOrV, eNotV, eIf, aNil, aCons, eTup, eLst, eFrz, frzK, oI, oIC, oSub, oMod, oDiv, oPow, oLt, oLe, oGt, oGe, oAdd, oMul, eNeg, oIsN, oNotN, oIx, atK, mNo, mPart, eSl, eCB, oLen, oInt, oSumL, oMax, oMin, oList, oBls, eCall, eBM, eBM0, isLs, oApp, oPop, oExt, lsOf, tTru, sNext, sSeq, sDrop, sRet, sRetN, sIf, sBreak, sCont, sNever, gN, gNil, gCons, gTup, setT, gSub, sAsg, sPar, sAug, oIxL, sAugS, oAddI, sFor, eLc, iSeq, iRange1, iRange2, iEnum, tYes, oIsi, kdOf, oEq, oNe, eqT_int, eqT_nn, eqT_in, eqT_ni,   atI_0, atI_1, atI_2, atI_3, atI_4, atI_5, atI_6, atI_7, atI_8, atI_m1, ixN_0, ixN_1,   kdN_int, kdN_bool, kdN_str, kdN_list, kdN_tuple, isK, view_int, view_non, dep_int, dep_non, cN, cN2, wipeT,   mk_true, mk_false, put_same, put_put,   List.map_cons, List.map_nil, List.length_cons, List.length_nil, List.replicate, List.cons_append, List.nil_append, List.append_nil, List.set_cons_zero, List.set_cons_succ, List.getElem?_cons_zero, List.getElem?_cons_succ, List.getElem?_nil, Nat.reduceAdd, Nat.reduceSub, Nat.reduceLeDiff, Nat.reduceLT, Nat.reduceEqDiff, Option.isSome_some, Option.isSome_none, true_and, and_true, if_true, if_false, Bool.false_eq_true, Bool.not_true, Bool.not_false, reduceCtorEq, Nat.zero_add, Nat.zero_le, decide_eq_true_eq, Bool.not_eq_true', decide_eq_false_iff_not, ite_true, ite_false, Bool.if_false_right, Bool.if_true_left, decide_true, decide_false, Bool.true_or, Bool.or_true, Bool.false_or, Bool.or_false, Bool.true_and, Bool.and_true, Bool.false_and, Bool.and_false, List.length_map, not_true_eq_false, not_false_eq_true, false_and, and_false, bne_self_eq_false, Bool.not_eq_false]
    refine forK_go (fun i s h' => h' = h ∧ i ≤ cs.length ∧ ∃ a b, s = [some (.lst L), some (.int m), a, b]) ⟨rfl, Nat.zero_le _, none, none, rfl⟩ ?_ ?_
    · rintro s h' ⟨rfl, hi, a, b, rfl⟩
      rw [enum_len] at hi
      omega
    · rintro i t s h' e ⟨rfl, hi, b1, b2, rfl⟩
      refine ⟨trivial, ?_⟩
      obtain ⟨y, ey, rfl⟩ := enum_at e
      by_cases c : i < cs.length
      · obtain ⟨c', c0, c1, ec⟩ := hin i c
        rw [ec] at ey
        cases ey
        simp only [C_is_integer, lim, ends, startT, eVar, eC, eOp, tOf, eChain, tAndM, tOrM, tNotM, eAndV, eOrV, eNotV, eIf, aNil, aCons, eTup, eLst, eFrz, frzK, oI, oIC, oSub, oMod, oDiv, oPow, oLt, oLe, oGt, oGe, oAdd, oMul, eNeg, oIsN, oNotN, oIx, atK, mNo, mPart, eSl, eCB, oLen, oInt, oSumL, oMax, oMin, oList, oBls, eCall, eBM, eBM0, isLs, oApp, oPop, oExt, lsOf, tTru, sNext, sSeq, sDrop, sRet, sRetN, sIf, sBreak, sCont, sNever, gN, gNil, gCons, gTup, setT, gSub, sAsg, sPar, sAug, oIxL, sAugS, oAddI, sFor, eLc, iSeq, iRange1, iRange2, iEnum, tYes, oIsi, kdOf, oEq, oNe, eqT_int, eqT_nn, eqT_in, eqT_ni,   atI_0, atI_1, atI_2, atI_3, atI_4, atI_5, atI_6, atI_7, atI_8, atI_m1, ixN_0, ixN_1,   kdN_int, kdN_bool, kdN_str, kdN_list, kdN_tuple, isK, view_int, view_non, dep_int, dep_non, cN, cN2, wipeT,   mk_true, mk_false, put_same, put_put,   List.map_cons, List.map_nil, List.length_cons, List.length_nil, List.replicate, List.cons_append, List.nil_append, List.append_nil, List.set_cons_zero, List.set_cons_succ, List.getElem?_cons_zero, List.getElem?_cons_succ, List.getElem?_nil, Nat.reduceAdd, Nat.reduceSub, Nat.reduceLeDiff, Nat.reduceLT, Nat.reduceEqDiff, Option.isSome_some, Option.isSome_none, true_and, and_true, if_true, if_false, Bool.false_eq_true, Bool.not_true, Bool.not_false, reduceCtorEq, Nat.zero_add, Nat.zero_le, decide_eq_true_eq, Bool.not_eq_true', decide_eq_false_iff_not, ite_true, ite_false, Bool.if_false_right, Bool.if_true_left, decide_true, decide_false, Bool.true_or, Bool.or_true, Bool.false_or, Bool.or_false, Bool.true_and, Bool.and_true, Bool.false_and, Bool.and_false, List.length_map, not_true_eq_false, not_false_eq_true, false_and, and_false, bne_self_eq_false, Bool.not_eq_false]
        refine ⟨.int c', 0, m, .int, rfl, rfl, ?_⟩
        simp only [isInt, c0, c1, lim, ends, startT, eVar, eC, eOp, tOf, eChain, tAndM, tOrM, tNotM, eAndV, eOrV, eNotV, eIf, aNil, aCons, eTup, eLst, eFrz, frzK, oI, oIC, oSub, oMod, oDiv, oPow, oLt, oLe, oGt, oGe, oAdd, oMul, eNeg, oIsN, oNotN, oIx, atK, mNo, mPart, eSl, eCB, oLen, oInt, oSumL, oMax, oMin, oList, oBls, eCall, eBM, eBM0, isLs, oApp, oPop, oExt, lsOf, tTru, sNext, sSeq, sDrop, sRet, sRetN, sIf, sBreak, sCont, sNever, gN, gNil, gCons, gTup, setT, gSub, sAsg, sPar, sAug, oIxL, sAugS, oAddI, sFor, eLc, iSeq, iRange1, iRange2, iEnum, tYes, oIsi, kdOf, oEq, oNe, eqT_int, eqT_nn, eqT_in, eqT_ni,   atI_0, atI_1, atI_2, atI_3, atI_4, atI_5, atI_6, atI_7, atI_8, atI_m1, ixN_0, ixN_1,   kdN_int, kdN_bool, kdN_str, kdN_list, kdN_tuple, isK, view_int, view_non, dep_int, dep_non, cN, cN2, wipeT,   mk_true, mk_false, put_same, put_put,   List.map_cons, List.map_nil, List.length_cons, List.length_nil, List.replicate, List.cons_append, List.nil_append, List.append_nil, List.set_cons_zero, List.set_cons_succ, List.getElem?_cons_zero, List.getElem?_cons_succ, List.getElem?_nil, Nat.reduceAdd, Nat.reduceSub, Nat.reduceLeDiff, Nat.reduceLT, Nat.reduceEqDiff, Option.isSome_some, Option.isSome_none, true_and, and_true, if_true, if_false, Bool.false_eq_true, Bool.not_true, Bool.not_false, reduceCtorEq, Nat.zero_add, Nat.zero_le, decide_eq_true_eq, Bool.not_eq_true', decide_eq_false_iff_not, ite_true, ite_false, Bool.if_false_right, Bool.if_true_left, decide_true, decide_false, Bool.true_or, Bool.or_true, Bool.false_or, Bool.or_false, Bool.true_and, Bool.and_true, Bool.false_and, Bool.and_false, List.length_map, not_true_eq_false, not_false_eq_true, false_and, and_false, bne_self_eq_false, Bool.not_eq_false]
        exact ⟨c, _, _, rfl⟩
      · have ei : i = cs.length := by omega
        subst ei
        rw [hix] at ey
        cases ey
        simp only [C_is_integer, lim, ends, startT, eVar, eC, eOp, tOf, eChain, tAndM, tOrM, tNotM, eAndV, eOrV, eNotV, eIf, aNil, aCons, eTup, eLst, eFrz, frzK, oI, oIC, oSub, oMod, oDiv, oPow, oLt, oLe, oGt, oGe, oAdd, oMul, eNeg, oIsN, oNotN, oIx, atK, mNo, mPart, eSl, eCB, oLen, oInt, oSumL, oMax, oMin, oList, oBls, eCall, eBM, eBM0, isLs, oApp, oPop, oExt, lsOf, tTru, sNext, sSeq, sDrop, sRet, sRetN, sIf, sBreak, sCont, sNever, gN, gNil, gCons, gTup, setT, gSub, sAsg, sPar, sAug, oIxL, sAugS, oAddI, sFor, eLc, iSeq, iRange1, iRange2, iEnum, tYes, oIsi, kdOf, oEq, oNe, eqT_int, eqT_nn, eqT_in, eqT_ni,   atI_0, atI_1, atI_2, atI_3, atI_4, atI_5, atI_6, atI_7, atI_8, atI_m1, ixN_0, ixN_1,   kdN_int, kdN_bool, kdN_str, kdN_list, kdN_tuple, isK, view_int, view_non, dep_int, dep_non, cN, cN2, wipeT,   mk_true, mk_false, put_same, put_put,   List.map_cons, List.map_nil, List.length_cons, List.length_nil, List.replicate, List.cons_append, List.nil_append, List.append_nil, List.set_cons_zero, List.set_cons_succ, List.getElem?_cons_zero, List.getElem?_cons_succ, List.getElem?_nil, Nat.reduceAdd, Nat.reduceSub, Nat.reduceLeDiff, Nat.reduceLT, Nat.reduceEqDiff, Option.isSome_some, Option.isSome_none, true_and, and_true, if_true, if_false, Bool.false_eq_true, Bool.not_true, Bool.not_false, reduceCtorEq, Nat.zero_add, Nat.zero_le, decide_eq_true_eq, Bool.not_eq_true', decide_eq_false_iff_not, ite_true, ite_false, Bool.if_false_right, Bool.if_true_left, decide_true, decide_false, Bool.true_or, Bool.or_true, Bool.false_or, Bool.or_false, Bool.true_and, Bool.and_true, Bool.false_and, Bool.and_false, List.length_map, not_true_eq_false, not_false_eq_true, false_and, and_false, bne_self_eq_false, Bool.not_eq_false]
        refine ⟨x, 0, m, k, rfl, hk, ?_⟩
        rw [hx]
        simp only [sRaise, lim, ends, startT, eVar, eC, eOp, tOf, eChain, tAndM, tOrM, tNotM, eAndV, eOrV, eNotV, eIf, aNil, aCons, eTup, eLst, eFrz, frzK, oI, oIC, oSub, oMod, oDiv, oPow, oLt, oLe, oGt, oGe, oAdd, oMul, eNeg, oIsN, oNotN, oIx, atK, mNo, mPart, eSl, eCB, oLen, oInt, oSumL, oMax, oMin, oList, oBls, eCall, eBM, eBM0, isLs, oApp, oPop, oExt, lsOf, tTru, sNext, sSeq, sDrop, sRet, sRetN, sIf, sBreak, sCont, sNever, gN, gNil, gCons, gTup, setT, gSub, sAsg, sPar, sAug, oIxL, sAugS, oAddI, sFor, eLc, iSeq, iRange1, iRange2, iEnum, tYes, oIsi, kdOf, oEq, oNe, eqT_int, eqT_nn, eqT_in, eqT_ni,   atI_0, atI_1, atI_2, atI_3, atI_4, atI_5, atI_6, atI_7, atI_8, atI_m1, ixN_0, ixN_1,   kdN_int, kdN_bool, kdN_str, kdN_list, kdN_tuple, isK, view_int, view_non, dep_int, dep_non, cN, cN2, wipeT,   mk_true, mk_false, put_same, put_put,   List.map_cons, List.map_nil, List.length_cons, List.length_nil, List.replicate, List.cons_append, List.nil_append, List.append_nil, List.set_cons_zero, List.set_cons_succ, List.getElem?_cons_zero, List.getElem?_cons_succ, List.getElem?_nil, Nat.reduceAdd, Nat.reduceSub, Nat.reduceLeDiff, Nat.reduceLT, Nat.reduceEqDiff, Option.isSome_some, Option.isSome_none, true_and, and_true, if_true, if_false, Bool.false_eq_true, Bool.not_true, Bool.not_false, reduceCtorEq, Nat.zero_add, Nat.zero_le, decide_eq_true_eq, Bool.not_eq_true', decide_eq_false_iff_not, ite_true, ite_false, Bool.if_false_right, Bool.if_true_left, decide_true, decide_false, Bool.true_or, Bool.or_true, Bool.false_or, Bool.or_false, Bool.true_and, Bool.and_true, Bool.false_and, Bool.and_false, List.length_map, not_true_eq_false, not_false_eq_true, false_and, and_false, bne_self_eq_false, Bool.not_eq_false]
        exact dnX_self q
  · cases t with
    | lst xs =>
      simp only [oddT, Bool.or_eq_true, decide_eq_true_eq] at ho
      rcases ho with ho | ho
      · have e : xs = [] := List.length_eq_zero_iff.mp ho
        subst e
        simp only [sRaise, lim, ends, startT, eVar, eC, eOp, tOf, eChain, tAndM, tOrM, tNotM, eAndV, eOrV, eNotV, eIf, aNil, aCons, eTup, eLst, eFrz, frzK, oI, oIC, oSub, oMod, oDiv, oPow, oLt, oLe, oGt, oGe, oAdd, oMul, eNeg, oIsN, oNotN, oIx, atK, mNo, mPart, eSl, eCB, oLen, oInt, oSumL, oMax, oMin, oList, oBls, eCall, eBM, eBM0, isLs, oApp, oPop, oExt, lsOf, tTru, sNext, sSeq, sDrop, sRet, sRetN, sIf, sBreak, sCont, sNever, gN, gNil, gCons, gTup, setT, gSub, sAsg, sPar, sAug, oIxL, sAugS, oAddI, sFor, eLc, iSeq, iRange1, iRange2, iEnum, tYes, oIsi, kdOf, oEq, oNe, eqT_int, eqT_nn, eqT_in, eqT_ni,   atI_0, atI_1, atI_2, atI_3, atI_4, atI_5, atI_6, atI_7, atI_8, atI_m1, ixN_0, ixN_1,   kdN_int, kdN_bool, kdN_str, kdN_list, kdN_tuple, isK, view_int, view_non, dep_int, dep_non, cN, cN2, wipeT,   mk_true, mk_false, put_same, put_put,   List.map_cons, List.map_nil, List.length_cons, List.length_nil, List.replicate, List.cons_append, List.nil_append, List.append_nil, List.set_cons_zero, List.set_cons_succ, List.getElem?_cons_zero, List.getElem?_cons_succ, List.getElem?_nil, Nat.reduceAdd, Nat.reduceSub, Nat.reduceLeDiff, Nat.reduceLT, Nat.reduceEqDiff, Option.isSome_some, Option.isSome_none, true_and, and_true, if_true, if_false, Bool.false_eq_true, Bool.not_true, Bool.not_false, reduceCtorEq, Nat.zero_add, Nat.zero_le, decide_eq_true_eq, Bool.not_eq_true', decide_eq_false_iff_not, ite_true, ite_false, Bool.if_false_right, Bool.if_true_left, decide_true, decide_false, Bool.true_or, Bool.or_true, Bool.false_or, Bool.or_false, Bool.true_and, Bool.and_true, Bool.false_and, Bool.and_false, List.length_map, not_true_eq_false, not_false_eq_true, false_and, and_false, bne_self_eq_false, Bool.not_eq_false]
        exact dnX_self q
      · have h8 : ¬ ((xs.length : Int) ≤ 8) := by omega
        have h1 : (1 : Int) ≤ xs.length := by omega
        simp only [sRaise, h8, h1, lim, ends, startT, eVar, eC, eOp, tOf, eChain, tAndM, tOrM, tNotM, eAndV, eOrV, eNotV, eIf, aNil, aCons, eTup, eLst, eFrz, frzK, oI, oIC, oSub, oMod, oDiv, oPow, oLt, oLe, oGt, oGe, oAdd, oMul, eNeg, oIsN, oNotN, oIx, atK, mNo, mPart, eSl, eCB, oLen, oInt, oSumL, oMax, oMin, oList, oBls, eCall, eBM, eBM0, isLs, oApp, oPop, oExt, lsOf, tTru, sNext, sSeq, sDrop, sRet, sRetN, sIf, sBreak, sCont, sNever, gN, gNil, gCons, gTup, setT, gSub, sAsg, sPar, sAug, oIxL, sAugS, oAddI, sFor, eLc, iSeq, iRange1, iRange2, iEnum, tYes, oIsi, kdOf, oEq, oNe, eqT_int, eqT_nn, eqT_in, eqT_ni,   atI_0, atI_1, atI_2, atI_3, atI_4, atI_5, atI_6, atI_7, atI_8, atI_m1, ixN_0, ixN_1,   kdN_int, kdN_bool, kdN_str, kdN_list, kdN_tuple, isK, view_int, view_non, dep_int, dep_non, cN, cN2, wipeT,   mk_true, mk_false, put_same, put_put,   List.map_cons, List.map_nil, List.length_cons, List.length_nil, List.replicate, List.cons_append, List.nil_append, List.append_nil, List.set_cons_zero, List.set_cons_succ, List.getElem?_cons_zero, List.getElem?_cons_succ, List.getElem?_nil, Nat.reduceAdd, Nat.reduceSub, Nat.reduceLeDiff, Nat.reduceLT, Nat.reduceEqDiff, Option.isSome_some, Option.isSome_none, true_and, and_true, if_true, if_false, Bool.false_eq_true, Bool.not_true, Bool.not_false, reduceCtorEq, Nat.zero_add, Nat.zero_le, decide_eq_true_eq, Bool.not_eq_true', decide_eq_false_iff_not, ite_true, ite_false, Bool.if_false_right, Bool.if_true_left, decide_true, decide_false, Bool.true_or, Bool.or_true, Bool.false_or, Bool.or_false, Bool.true_and, Bool.and_true, Bool.false_and, Bool.and_false, List.length_map, not_true_eq_false, not_false_eq_true, false_and, and_false, bne_self_eq_false, Bool.not_eq_false]
        exact dnX_self q
    | non => simp only [sRaise, lim, ends, startT, eVar, eC, eOp, tOf, eChain, tAndM, tOrM, tNotM, eAndV, eOrV, eNotV, eIf, aNil, aCons, eTup, eLst, eFrz, frzK, oI, oIC, oSub, oMod, oDiv, oPow, oLt, oLe, oGt, oGe, oAdd, oMul, eNeg, oIsN, oNotN, oIx, atK, mNo, mPart, eSl, eCB, oLen, oInt, oSumL, oMax, oMin, oList, oBls, eCall, eBM, eBM0, isLs, oApp, oPop, oExt, lsOf, tTru, sNext, sSeq, sDrop, sRet, sRetN, sIf, sBreak, sCont, sNever, gN, gNil, gCons, gTup, setT, gSub, sAsg, sPar, sAug, oIxL, sAugS, oAddI, sFor, eLc, iSeq, iRange1, iRange2, iEnum, tYes, oIsi, kdOf, oEq, oNe, eqT_int, eqT_nn, eqT_in, eqT_ni,   atI_0, atI_1, atI_2, atI_3, atI_4, atI_5, atI_6, atI_7, atI_8, atI_m1, ixN_0, ixN_1,   kdN_int, kdN_bool, kdN_str, kdN_list, kdN_tuple, isK, view_int, view_non, dep_int, dep_non, cN, cN2, wipeT,   mk_true, mk_false, put_same, put_put,   List.map_cons, List.map_nil, List.length_cons, List.length_nil, List.replicate, List.cons_append, List.nil_append, List.append_nil, List.set_cons_zero, List.set_cons_succ, List.getElem?_cons_zero, List.getElem?_cons_succ, List.getElem?_nil, Nat.reduceAdd, Nat.reduceSub, Nat.reduceLeDiff, Nat.reduceLT, Nat.reduceEqDiff, Option.isSome_some, Option.isSome_none, true_and, and_true, if_true, if_false, Bool.false_eq_true, Bool.not_true, Bool.not_false, reduceCtorEq, Nat.zero_add, Nat.zero_le, decide_eq_true_eq, Bool.not_eq_true', decide_eq_false_iff_not, ite_true, ite_false, Bool.if_false_right, Bool.if_true_left, decide_true, decide_false, Bool.true_or, Bool.or_true, Bool.false_or, Bool.or_false, Bool.true_and, Bool.and_true, Bool.false_and, Bool.and_false, List.length_map, not_true_eq_false, not_false_eq_true, false_and, and_false, bne_self_eq_false, Bool.not_eq_false]; exact dnX_self q
    | bl b => simp only [sRaise, lim, ends, startT, eVar, eC, eOp, tOf, eChain, tAndM, tOrM, tNotM, eAndV, eOrV, eNotV, eIf, aNil, aCons, eTup, eLst, eFrz, frzK, oI, oIC, oSub, oMod, oDiv, oPow, oLt, oLe, oGt, oGe, oAdd, oMul, eNeg, oIsN, oNotN, oIx, atK, mNo, mPart, eSl, eCB, oLen, oInt, oSumL, oMax, oMin, oList, oBls, eCall, eBM, eBM0, isLs, oApp, oPop, oExt, lsOf, tTru, sNext, sSeq, sDrop, sRet, sRetN, sIf, sBreak, sCont, sNever, gN, gNil, gCons, gTup, setT, gSub, sAsg, sPar, sAug, oIxL, sAugS, oAddI, sFor, eLc, iSeq, iRange1, iRange2, iEnum, tYes, oIsi, kdOf, oEq, oNe, eqT_int, eqT_nn, eqT_in, eqT_ni,   atI_0, atI_1, atI_2, atI_3, atI_4, atI_5, atI_6, atI_7, atI_8, atI_m1, ixN_0, ixN_1,   kdN_int, kdN_bool, kdN_str, kdN_list, kdN_tuple, isK, view_int, view_non, dep_int, dep_non, cN, cN2, wipeT,   mk_true, mk_false, put_same, put_put,   List.map_cons, List.map_nil, List.length_cons, List.length_nil, List.replicate, List.cons_append, List.nil_append, List.append_nil, List.set_cons_zero, List.set_cons_succ, List.getElem?_cons_zero, List.getElem?_cons_succ, List.getElem?_nil, Nat.reduceAdd, Nat.reduceSub, Nat.reduceLeDiff, Nat.reduceLT, Nat.reduceEqDiff, Option.isSome_some, Option.isSome_none, true_and, and_true, if_true, if_false, Bool.false_eq_true, Bool.not_true, Bool.not_false, reduceCtorEq, Nat.zero_add, Nat.zero_le, decide_eq_true_eq, Bool.not_eq_true', decide_eq_false_iff_not, ite_true, ite_false, Bool.if_false_right, Bool.if_true_left, decide_true, decide_false, Bool.true_or, Bool.or_true, Bool.false_or, Bool.or_false, Bool.true_and, Bool.and_true, Bool.false_and, Bool.and_false, List.length_map, not_true_eq_false, not_false_eq_true, false_and, and_false, bne_self_eq_false, Bool.not_eq_false]; exact dnX_self q
    | int i => simp only [sRaise, lim, ends, startT, eVar, eC, eOp, tOf, eChain, tAndM, tOrM, tNotM, eAndV, eOrV, eNotV, eIf, aNil, aCons, eTup, eLst, eFrz, frzK, oI, oIC, oSub, oMod, oDiv, oPow, oLt, oLe, oGt, oGe, oAdd, oMul, eNeg, oIsN, oNotN, oIx, atK, mNo, mPart, eSl, eCB, oLen, oInt, oSumL, oMax, oMin, oList, oBls, eCall, eBM, eBM0, isLs, oApp, oPop, oExt, lsOf, tTru, sNext, sSeq, sDrop, sRet, sRetN, sIf, sBreak, sCont, sNever, gN, gNil, gCons, gTup, setT, gSub, sAsg, sPar, sAug, oIxL, sAugS, oAddI, sFor, eLc, iSeq, iRange1, iRange2, iEnum, tYes, oIsi, kdOf, oEq, oNe, eqT_int, eqT_nn, eqT_in, eqT_ni,   atI_0, atI_1, atI_2, atI_3, atI_4, atI_5, atI_6, atI_7, atI_8, atI_m1, ixN_0, ixN_1,   kdN_int, kdN_bool, kdN_str, kdN_list, kdN_tuple, isK, view_int, view_non, dep_int, dep_non, cN, cN2, wipeT,   mk_true, mk_false, put_same, put_put,   List.map_cons, List.map_nil, List.length_cons, List.length_nil, List.replicate, List.cons_append, List.nil_append, List.append_nil, List.set_cons_zero, List.set_cons_succ, List.getElem?_cons_zero, List.getElem?_cons_succ, List.getElem?_nil, Nat.reduceAdd, Nat.reduceSub, Nat.reduceLeDiff, Nat.reduceLT, Nat.reduceEqDiff, Option.isSome_some, Option.isSome_none, true_and, and_true, if_true, if_false, Bool.false_eq_true, Bool.not_true, Bool.not_false, reduceCtorEq, Nat.zero_add, Nat.zero_le, decide_eq_true_eq, Bool.not_eq_true', decide_eq_false_iff_not, ite_true, ite_false, Bool.if_false_right, Bool.if_true_left, decide_true, decide_false, Bool.true_or, Bool.or_true, Bool.false_or, Bool.or_false, Bool.true_and, Bool.and_true, Bool.false_and, Bool.and_false, List.length_map, not_true_eq_false, not_false_eq_true, false_and, and_false, bne_self_eq_false, Bool.not_eq_false]; exact dnX_self q
    | str z => simp only [sRaise, lim, ends, startT, eVar, eC, eOp, tOf, eChain, tAndM, tOrM, tNotM, eAndV, eOrV, eNotV, eIf, aNil, aCons, eTup, eLst, eFrz, frzK, oI, oIC, oSub, oMod, oDiv, oPow, oLt, oLe, oGt, oGe, oAdd, oMul, eNeg, oIsN, oNotN, oIx, atK, mNo, mPart, eSl, eCB, oLen, oInt, oSumL, oMax, oMin, oList, oBls, eCall, eBM, eBM0, isLs, oApp, oPop, oExt, lsOf, tTru, sNext, sSeq, sDrop, sRet, sRetN, sIf, sBreak, sCont, sNever, gN, gNil, gCons, gTup, setT, gSub, sAsg, sPar, sAug, oIxL, sAugS, oAddI, sFor, eLc, iSeq, iRange1, iRange2, iEnum, tYes, oIsi, kdOf, oEq, oNe, eqT_int, eqT_nn, eqT_in, eqT_ni,   atI_0, atI_1, atI_2, atI_3, atI_4, atI_5, atI_6, atI_7, atI_8, atI_m1, ixN_0, ixN_1,   kdN_int, kdN_bool, kdN_str, kdN_list, kdN_tuple, isK, view_int, view_non, dep_int, dep_non, cN, cN2, wipeT,   mk_true, mk_false, put_same, put_put,   List.map_cons, List.map_nil, List.length_cons, List.length_nil, List.replicate, List.cons_append, List.nil_append, List.append_nil, List.set_cons_zero, List.set_cons_succ, List.getElem?_cons_zero, List.getElem?_cons_succ, List.getElem?_nil, Nat.reduceAdd, Nat.reduceSub, Nat.reduceLeDiff, Nat.reduceLT, Nat.reduceEqDiff, Option.isSome_some, Option.isSome_none, true_and, and_true, if_true, if_false, Bool.false_eq_true, Bool.not_true, Bool.not_false, reduceCtorEq, Nat.zero_add, Nat.zero_le, decide_eq_true_eq, Bool.not_eq_true', decide_eq_false_iff_not, ite_true, ite_false, Bool.if_false_right, Bool.if_true_left, decide_true, decide_false, Bool.true_or, Bool.or_true, Bool.false_or, Bool.or_false, Bool.true_and, Bool.and_true, Bool.false_and, Bool.and_false, List.length_map, not_true_eq_false, not_false_eq_true, false_and, and_false, bne_self_eq_false, Bool.not_eq_false]; exact dnX_self q
    | tup z => simp only [sRaise, lim, ends, startT, eVar, eC, eOp, tOf, eChain, tAndM, tOrM, tNotM, eAndV, eOrV, eNotV, eIf, aNil, aCons, eTup, eLst, eFrz, frzK, oI, oIC, oSub, oMod, oDiv, oPow, oLt, oLe, oGt, oGe, oAdd, oMul, eNeg, oIsN, oNotN, oIx, atK, mNo, mPart, eSl, eCB, oLen, oInt, oSumL, oMax, oMin, oList, oBls, eCall, eBM, eBM0, isLs, oApp, oPop, oExt, lsOf, tTru, sNext, sSeq, sDrop, sRet, sRetN, sIf, sBreak, sCont, sNever, gN, gNil, gCons, gTup, setT, gSub, sAsg, sPar, sAug, oIxL, sAugS, oAddI, sFor, eLc, iSeq, iRange1, iRange2, iEnum, tYes, oIsi, kdOf, oEq, oNe, eqT_int, eqT_nn, eqT_in, eqT_ni,   atI_0, atI_1, atI_2, atI_3, atI_4, atI_5, atI_6, atI_7, atI_8, atI_m1, ixN_0, ixN_1,   kdN_int, kdN_bool, kdN_str, kdN_list, kdN_tuple, isK, view_int, view_non, dep_int, dep_non, cN, cN2, wipeT,   mk_true, mk_false, put_same, put_put,   List.map_cons, List.map_nil, List.length_cons, List.length_nil, List.replicate, List.cons_append, List.nil_append, List.append_nil, List.set_cons_zero, List.set_cons_succ, List.getElem?_cons_zero, List.getElem?_cons_succ, List.getElem?_nil, Nat.reduceAdd, Nat.reduceSub, Nat.reduceLeDiff, Nat.reduceLT, Nat.reduceEqDiff, Option.isSome_some, Option.isSome_none, true_and, and_true, if_true, if_false, Bool.false_eq_true, Bool.not_true, Bool.not_false, reduceCtorEq, Nat.zero_add, Nat.zero_le, decide_eq_true_eq, Bool.not_eq_true', decide_eq_false_iff_not, ite_true, ite_false, Bool.if_false_right, Bool.if_true_left, decide_true, decide_false, Bool.true_or, Bool.or_true, Bool.false_or, Bool.or_false, Bool.true_and, Bool.and_true, Bool.false_and, Bool.and_false, List.length_map, not_true_eq_false, not_false_eq_true, false_and, and_false, bne_self_eq_false, Bool.not_eq_false]; exact dnX_self q
    | ins _ _ => cases ho
    | ref _ => cases ho
    | ty _ => cases ho
    | scr _ => cases ho
    | exc _ _ _ _ => cases ho
theorem pl_order_of (Z : Tx K mg a) : ∀ ts h Q E, ts.length = 1 → C_order_of a ts h Q E → B_order_of K a (ends Q E) (startT N_order_of.length ts) h := by
  rintro ts h Q E - hh
  unfold B_order_of
  rcases hh with ⟨cs, rfl, l1, l8, hc, q⟩ | ⟨cs, x, r, k, rfl, l8, hc, hk, hx, q⟩ | ⟨t, rfl, ho, q⟩
  · simp only [C_check_sizes, C_in_order, lim, ends, startT, eVar, eC, eOp, tOf, eChain, tAndM, tOrM, tNotM, eAndV, eOrV, eNotV, eIf, aNil, aCons, eTup, eLst, eFrz, frzK, oI, oIC, oSub, oMod, oDiv, oPow, oLt, oLe, oGt, oGe, oAdd, oMul, eNeg, oIsN, oNotN, oIx, atK, mNo, mPart, eSl, eCB, oLen, oInt, oSumL, oMax, oMin, oList, oBls, eCall, eBM, eBM0, isLs, oApp, oPop, oExt, lsOf, tTru, sNext, sSeq, sDrop, sRet, sRetN, sIf, sBreak, sCont, sNever, gN, gNil, gCons, gTup, setT, gSub, sAsg, sPar, sAug, oIxL, sAugS, oAddI, sFor, eLc, iSeq, iRange1, iRange2, iEnum, tYes, oIsi, kdOf, oEq, oNe, eqT_int, eqT_nn, eqT_in, eqT_ni,   atI_0, atI_1, atI_2, atI_3, atI_4, atI_5, atI_6, atI_7, atI_8, atI_m1, ixN_0, ixN_1,   kdN_int, kdN_bool, kdN_str, kdN_list, kdN_tuple, isK, view_int, view_non, dep_int, dep_non, cN, cN2, wipeT,   mk_true, mk_false, put_same, put_put,   List.map_cons, List.map_nil, List.length_cons, List.length_nil, List.replicate, List.cons_append, List.nil_append, List.append_nil, List.set_cons_zero, List.set_cons_succ, List.getElem?_cons_zero, List.getElem?_cons_succ, List.getElem?_nil, Nat.reduceAdd, Nat.reduceSub, Nat.reduceLeDiff, Nat.reduceLT, Nat.reduceEqDiff, Option.isSome_some, Option.isSome_none, true_and, and_true, if_true, if_false, Bool.false_eq_true, Bool.not_true, Bool.not_false, reduceCtorEq, Nat.zero_add, Nat.zero_le, decide_eq_true_eq, Bool.not_eq_true', decide_eq_false_iff_not, ite_true, ite_false, Bool.if_false_right, Bool.if_true_left, decide_true, decide_false, Bool.true_or, Bool.or_true, Bool.false_or, Bool.or_false, Bool.true_and, Bool.and_true, Bool.false_and, Bool.and_false, List.length_map, not_true_eq_false, not_false_eq_true, false_and, and_false, bne_self_eq_false, Bool.not_eq_false]
    refine ⟨_, 1000, rfl, .inl ⟨cs, rfl, l1, l8, hc, ?_⟩⟩
    refine ⟨cs, rfl, fun c h => (hc c h).1, ?_, l8, fun p hp => dn_self (q p hp)⟩
    have := sum_le (m := 1000) cs (fun c h => (hc c h).2)
    omega
  · simp only [C_check_sizes, C_in_order, lim, ends, startT, eVar, eC, eOp, tOf, eChain, tAndM, tOrM, tNotM, eAndV, eOrV, eNotV, eIf, aNil, aCons, eTup, eLst, eFrz, frzK, oI, oIC, oSub, oMod, oDiv, oPow, oLt, oLe, oGt, oGe, oAdd, oMul, eNeg, oIsN, oNotN, oIx, atK, mNo, mPart, eSl, eCB, oLen, oInt, oSumL, oMax, oMin, oList, oBls, eCall, eBM, eBM0, isLs, oApp, oPop, oExt, lsOf, tTru, sNext, sSeq, sDrop, sRet, sRetN, sIf, sBreak, sCont, sNever, gN, gNil, gCons, gTup, setT, gSub, sAsg, sPar, sAug, oIxL, sAugS, oAddI, sFor, eLc, iSeq, iRange1, iRange2, iEnum, tYes, oIsi, kdOf, oEq, oNe, eqT_int, eqT_nn, eqT_in, eqT_ni,   atI_0, atI_1, atI_2, atI_3, atI_4, atI_5, atI_6, atI_7, atI_8, atI_m1, ixN_0, ixN_1,   kdN_int, kdN_bool, kdN_str, kdN_list, kdN_tuple, isK, view_int, view_non, dep_int, dep_non, cN, cN2, wipeT,   mk_true, mk_false, put_same, put_put,   List.map_cons, List.map_nil, List.length_cons, List.length_nil, List.replicate, List.cons_append, List.nil_append, List.append_nil, List.set_cons_zero, List.set_cons_succ, List.getElem?_cons_zero, List.getElem?_cons_succ, List.getElem?_nil, Nat.reduceAdd, Nat.reduceSub, Nat.reduceLeDiff, Nat.reduceLT, Nat.reduceEqDiff, Option.isSome_some, Option.isSome_none, true_and, and_true, if_true, if_false, Bool.false_eq_true, Bool.not_true, Bool.not_false, reduceCtorEq, Nat.zero_add, Nat.zero_le, decide_eq_true_eq, Bool.not_eq_true', decide_eq_false_iff_not, ite_true, ite_false, Bool.if_false_right, Bool.if_true_left, decide_true, decide_false, Bool.true_or, Bool.or_true, Bool.false_or, Bool.or_false, Bool.true_and, Bool.and_true, Bool.false_and, Bool.and_false, List.length_map, not_true_eq_false, not_false_eq_true, false_and, and_false, bne_self_eq_false, Bool.not_eq_false]
    exact ⟨_, 1000, rfl, .inr (.inl ⟨cs, x, r, k, rfl, l8, hc, hk, hx, dnX_self q⟩)⟩
  · simp only [C_check_sizes, C_in_order, lim, ends, startT, eVar, eC, eOp, tOf, eChain, tAndM, tOrM, tNotM, eAndV, eOrV, eNotV, eIf, aNil, aCons, eTup, eLst, eFrz, frzK, oI, oIC, oSub, oMod, oDiv, oPow, oLt, oLe, oGt, oGe, oAdd, oMul, eNeg, oIsN, oNotN, oIx, atK, mNo, mPart, eSl, eCB, oLen, oInt, oSumL, oMax, oMin, oList, oBls, eCall, eBM, eBM0, isLs, oApp, oPop, oExt, lsOf, tTru, sNext, sSeq, sDrop, sRet, sRetN, sIf, sBreak, sCont, sNever, gN, gNil, gCons, gTup, setT, gSub, sAsg, sPar, sAug, oIxL, sAugS, oAddI, sFor, eLc, iSeq, iRange1, iRange2, iEnum, tYes, oIsi, kdOf, oEq, oNe, eqT_int, eqT_nn, eqT_in, eqT_ni,   atI_0, atI_1, atI_2, atI_3, atI_4, atI_5, atI_6, atI_7, atI_8, atI_m1, ixN_0, ixN_1,   kdN_int, kdN_bool, kdN_str, kdN_list, kdN_tuple, isK, view_int, view_non, dep_int, dep_non, cN, cN2, wipeT,   mk_true, mk_false, put_same, put_put,   List.map_cons, List.map_nil, List.length_cons, List.length_nil, List.replicate, List.cons_append, List.nil_append, List.append_nil, List.set_cons_zero, List.set_cons_succ, List.getElem?_cons_zero, List.getElem?_cons_succ, List.getElem?_nil, Nat.reduceAdd, Nat.reduceSub, Nat.reduceLeDiff, Nat.reduceLT, Nat.reduceEqDiff, Option.isSome_some, Option.isSome_none, true_and, and_true, if_true, if_false, Bool.false_eq_true, Bool.not_true, Bool.not_false, reduceCtorEq, Nat.zero_add, Nat.zero_le, decide_eq_true_eq, Bool.not_eq_true', decide_eq_false_iff_not, ite_true, ite_false, Bool.if_false_right, Bool.if_true_left, decide_true, decide_false, Bool.true_or, Bool.or_true, Bool.false_or, Bool.or_false, Bool.true_and, Bool.and_true, Bool.false_and, Bool.and_false, List.length_map, not_true_eq_false, not_false_eq_true, false_and, and_false, bne_self_eq_false, Bool.not_eq_false]
    exact ⟨_, 1000, rfl, .inr (.inr ⟨ho, dnX_self q⟩)⟩
theorem lookup_one (f : Str) (t : T) : List.lookup f [(f, t)] = some t := by simp [List.lookup]
theorem pl_law_refused (Z : Tx K mg a) : ∀ ts h Q E, ts.length = 1 → C_law_refused ts h Q E → B_law_refused K a (ends Q E) (startT N_law_refused.length ts) h := by
  rintro ts h Q E - hh
  unfold B_law_refused
  have go : ∀ t : T, ∀ s1 D, (ends Q E).rt (.tup [.str "sizes", t]) h → exTry K (.ref a.c_GrowError) 1 (fun ea ecls ed => (sRet (eIf (tAndM (tTru (eCB (oIsE K ea ecls ed) (aCons (eVar 1) (aCons (eC (.ref a.c_InvalidSizes)) aNil)))) (tNotM (tTru (eCB (oIsE K ea ecls ed) (aCons (eVar 1) (aCons (eC (.ref a.c_InvalidNumber)) aNil)))))) (eTup (aCons (eC (.str "sizes")) (aCons (eXf K ea ecls ed "number" (eVar 1)) aNil))) (eC .non)))) { nx := D, rt := (ends Q E).rt, ex := fun x _ h => dnX E x h } (badX a t) [some s1, none] h := by
    intro t s1 D q
    refine ⟨true, Z.m_InvalidSizes_GrowError, fun _ ea ed na => ?_, fun z => nomatch z⟩
    simp only [badX, oIsE, lim, ends, startT, eVar, eC, eOp, tOf, eChain, tAndM, tOrM, tNotM, eAndV, eOrV, eNotV, eIf, aNil, aCons, eTup, eLst, eFrz, frzK, oI, oIC, oSub, oMod, oDiv, oPow, oLt, oLe, oGt, oGe, oAdd, oMul, eNeg, oIsN, oNotN, oIx, atK, mNo, mPart, eSl, eCB, oLen, oInt, oSumL, oMax, oMin, oList, oBls, eCall, eBM, eBM0, isLs, oApp, oPop, oExt, lsOf, tTru, sNext, sSeq, sDrop, sRet, sRetN, sIf, sBreak, sCont, sNever, gN, gNil, gCons, gTup, setT, gSub, sAsg, sPar, sAug, oIxL, sAugS, oAddI, sFor, eLc, iSeq, iRange1, iRange2, iEnum, tYes, oIsi, kdOf, oEq, oNe, eqT_int, eqT_nn, eqT_in, eqT_ni,   atI_0, atI_1, atI_2, atI_3, atI_4, atI_5, atI_6, atI_7, atI_8, atI_m1, ixN_0, ixN_1,   kdN_int, kdN_bool, kdN_str, kdN_list, kdN_tuple, isK, view_int, view_non, dep_int, dep_non, cN, cN2, wipeT,   mk_true, mk_false, put_same, put_put,   List.map_cons, List.map_nil, List.length_cons, List.length_nil, List.replicate, List.cons_append, List.nil_append, List.append_nil, List.set_cons_zero, List.set_cons_succ, List.getElem?_cons_zero, List.getElem?_cons_succ, List.getElem?_nil, Nat.reduceAdd, Nat.reduceSub, Nat.reduceLeDiff, Nat.reduceLT, Nat.reduceEqDiff, Option.isSome_some, Option.isSome_none, true_and, and_true, if_true, if_false, Bool.false_eq_true, Bool.not_true, Bool.not_false, reduceCtorEq, Nat.zero_add, Nat.zero_le, decide_eq_true_eq, Bool.not_eq_true', decide_eq_false_iff_not, ite_true, ite_false, Bool.if_false_right, Bool.if_true_left, decide_true, decide_false, Bool.true_or, Bool.or_true, Bool.false_or, Bool.or_false, Bool.true_and, Bool.and_true, Bool.false_and, Bool.and_false, List.length_map, not_true_eq_false, not_false_eq_true, false_and, and_false, bne_self_eq_false, Bool.not_eq_false]
    refine ⟨_, _, rfl, Z.q_InvalidSizes, Z.k_InvalidSizes_InvalidSizes, ?_⟩
    simp only [oIsE, lim, ends, startT, eVar, eC, eOp, tOf, eChain, tAndM, tOrM, tNotM, eAndV, eOrV, eNotV, eIf, aNil, aCons, eTup, eLst, eFrz, frzK, oI, oIC, oSub, oMod, oDiv, oPow, oLt, oLe, oGt, oGe, oAdd, oMul, eNeg, oIsN, oNotN, oIx, atK, mNo, mPart, eSl, eCB, oLen, oInt, oSumL, oMax, oMin, oList, oBls, eCall, eBM, eBM0, isLs, oApp, oPop, oExt, lsOf, tTru, sNext, sSeq, sDrop, sRet, sRetN, sIf, sBreak, sCont, sNever, gN, gNil, gCons, gTup, setT, gSub, sAsg, sPar, sAug, oIxL, sAugS, oAddI, sFor, eLc, iSeq, iRange1, iRange2, iEnum, tYes, oIsi, kdOf, oEq, oNe, eqT_int, eqT_nn, eqT_in, eqT_ni,   atI_0, atI_1, atI_2, atI_3, atI_4, atI_5, atI_6, atI_7, atI_8, atI_m1, ixN_0, ixN_1,   kdN_int, kdN_bool, kdN_str, kdN_list, kdN_tuple, isK, view_int, view_non, dep_int, dep_non, cN, cN2, wipeT,   mk_true, mk_false, put_same, put_put,   List.map_cons, List.map_nil, List.length_cons, List.length_nil, List.replicate, List.cons_append, List.nil_append, List.append_nil, List.set_cons_zero, List.set_cons_succ, List.getElem?_cons_zero, List.getElem?_cons_succ, List.getElem?_nil, Nat.reduceAdd, Nat.reduceSub, Nat.reduceLeDiff, Nat.reduceLT, Nat.reduceEqDiff, Option.isSome_some, Option.isSome_none, true_and, and_true, if_true, if_false, Bool.false_eq_true, Bool.not_true, Bool.not_false, reduceCtorEq, Nat.zero_add, Nat.zero_le, decide_eq_true_eq, Bool.not_eq_true', decide_eq_false_iff_not, ite_true, ite_false, Bool.if_false_right, Bool.if_true_left, decide_true, decide_false, Bool.true_or, Bool.or_true, Bool.false_or, Bool.or_false, Bool.true_and, Bool.and_true, Bool.false_and, Bool.and_false, List.length_map, not_true_eq_false, not_false_eq_true, false_and, and_false, bne_self_eq_false, Bool.not_eq_false]
    refine ⟨_, _, rfl, Z.q_InvalidSizes, Z.k_InvalidSizes_InvalidNumber, ?_⟩
    simp only [eXf, lim, ends, startT, eVar, eC, eOp, tOf, eChain, tAndM, tOrM, tNotM, eAndV, eOrV, eNotV, eIf, aNil, aCons, eTup, eLst, eFrz, frzK, oI, oIC, oSub, oMod, oDiv, oPow, oLt, oLe, oGt, oGe, oAdd, oMul, eNeg, oIsN, oNotN, oIx, atK, mNo, mPart, eSl, eCB, oLen, oInt, oSumL, oMax, oMin, oList, oBls, eCall, eBM, eBM0, isLs, oApp, oPop, oExt, lsOf, tTru, sNext, sSeq, sDrop, sRet, sRetN, sIf, sBreak, sCont, sNever, gN, gNil, gCons, gTup, setT, gSub, sAsg, sPar, sAug, oIxL, sAugS, oAddI, sFor, eLc, iSeq, iRange1, iRange2, iEnum, tYes, oIsi, kdOf, oEq, oNe, eqT_int, eqT_nn, eqT_in, eqT_ni,   atI_0, atI_1, atI_2, atI_3, atI_4, atI_5, atI_6, atI_7, atI_8, atI_m1, ixN_0, ixN_1,   kdN_int, kdN_bool, kdN_str, kdN_list, kdN_tuple, isK, view_int, view_non, dep_int, dep_non, cN, cN2, wipeT,   mk_true, mk_false, put_same, put_put,   List.map_cons, List.map_nil, List.length_cons, List.length_nil, List.replicate, List.cons_append, List.nil_append, List.append_nil, List.set_cons_zero, List.set_cons_succ, List.getElem?_cons_zero, List.getElem?_cons_succ, List.getElem?_nil, Nat.reduceAdd, Nat.reduceSub, Nat.reduceLeDiff, Nat.reduceLT, Nat.reduceEqDiff, Option.isSome_some, Option.isSome_none, true_and, and_true, if_true, if_false, Bool.false_eq_true, Bool.not_true, Bool.not_false, reduceCtorEq, Nat.zero_add, Nat.zero_le, decide_eq_true_eq, Bool.not_eq_true', decide_eq_false_iff_not, ite_true, ite_false, Bool.if_false_right, Bool.if_true_left, decide_true, decide_false, Bool.true_or, Bool.or_true, Bool.false_or, Bool.or_false, Bool.true_and, Bool.and_true, Bool.false_and, Bool.and_false, List.length_map, not_true_eq_false, not_false_eq_true, false_and, and_false, bne_self_eq_false, Bool.not_eq_false]
    refine ⟨_, Z.x_InvalidSizes, Z.n_InvalidSizes, rfl, ?_⟩
    rw [lookup_one]
    exact q
  rcases hh with ⟨cs, x, r, k, rfl, l8, hc, hk, hx, q⟩ | ⟨t, rfl, ho, q⟩
  · simp only [sTry, C_order_of, lim, ends, startT, eVar, eC, eOp, tOf, eChain, tAndM, tOrM, tNotM, eAndV, eOrV, eNotV, eIf, aNil, aCons, eTup, eLst, eFrz, frzK, oI, oIC, oSub, oMod, oDiv, oPow, oLt, oLe, oGt, oGe, oAdd, oMul, eNeg, oIsN, oNotN, oIx, atK, mNo, mPart, eSl, eCB, oLen, oInt, oSumL, oMax, oMin, oList, oBls, eCall, eBM, eBM0, isLs, oApp, oPop, oExt, lsOf, tTru, sNext, sSeq, sDrop, sRet, sRetN, sIf, sBreak, sCont, sNever, gN, gNil, gCons, gTup, setT, gSub, sAsg, sPar, sAug, oIxL, sAugS, oAddI, sFor, eLc, iSeq, iRange1, iRange2, iEnum, tYes, oIsi, kdOf, oEq, oNe, eqT_int, eqT_nn, eqT_in, eqT_ni,   atI_0, atI_1, atI_2, atI_3, atI_4, atI_5, atI_6, atI_7, atI_8, atI_m1, ixN_0, ixN_1,   kdN_int, kdN_bool, kdN_str, kdN_list, kdN_tuple, isK, view_int, view_non, dep_int, dep_non, cN, cN2, wipeT,   mk_true, mk_false, put_same, put_put,   List.map_cons, List.map_nil, List.length_cons, List.length_nil, List.replicate, List.cons_append, List.nil_append, List.append_nil, List.set_cons_zero, List.set_cons_succ, List.getElem?_cons_zero, List.getElem?_cons_succ, List.getElem?_nil, Nat.reduceAdd, Nat.reduceSub, Nat.reduceLeDiff, Nat.reduceLT, Nat.reduceEqDiff, Option.isSome_some, Option.isSome_none, true_and, and_true, if_true, if_false, Bool.false_eq_true, Bool.not_true, Bool.not_false, reduceCtorEq, Nat.zero_add, Nat.zero_le, decide_eq_true_eq, Bool.not_eq_true', decide_eq_false_iff_not, ite_true, ite_false, Bool.if_false_right, Bool.if_true_left, decide_true, decide_false, Bool.true_or, Bool.or_true, Bool.false_or, Bool.or_false, Bool.true_and, Bool.and_true, Bool.false_and, Bool.and_false, List.length_map, not_true_eq_false, not_false_eq_true, false_and, and_false, bne_self_eq_false, Bool.not_eq_false]
    exact .inr (.inl ⟨cs, x, r, k, rfl, l8, hc, hk, hx, go _ _ _ (dn_self q)⟩)
  · simp only [sTry, C_order_of, lim, ends, startT, eVar, eC, eOp, tOf, eChain, tAndM, tOrM, tNotM, eAndV, eOrV, eNotV, eIf, aNil, aCons, eTup, eLst, eFrz, frzK, oI, oIC, oSub, oMod, oDiv, oPow, oLt, oLe, oGt, oGe, oAdd, oMul, eNeg, oIsN, oNotN, oIx, atK, mNo, mPart, eSl, eCB, oLen, oInt, oSumL, oMax, oMin, oList, oBls, eCall, eBM, eBM0, isLs, oApp, oPop, oExt, lsOf, tTru, sNext, sSeq, sDrop, sRet, sRetN, sIf, sBreak, sCont, sNever, gN, gNil, gCons, gTup, setT, gSub, sAsg, sPar, sAug, oIxL, sAugS, oAddI, sFor, eLc, iSeq, iRange1, iRange2, iEnum, tYes, oIsi, kdOf, oEq, oNe, eqT_int, eqT_nn, eqT_in, eqT_ni,   atI_0, atI_1, atI_2, atI_3, atI_4, atI_5, atI_6, atI_7, atI_8, atI_m1, ixN_0, ixN_1,   kdN_int, kdN_bool, kdN_str, kdN_list, kdN_tuple, isK, view_int, view_non, dep_int, dep_non, cN, cN2, wipeT,   mk_true, mk_false, put_same, put_put,   List.map_cons, List.map_nil, List.length_cons, List.length_nil, List.replicate, List.cons_append, List.nil_append, List.append_nil, List.set_cons_zero, List.set_cons_succ, List.getElem?_cons_zero, List.getElem?_cons_succ, List.getElem?_nil, Nat.reduceAdd, Nat.reduceSub, Nat.reduceLeDiff, Nat.reduceLT, Nat.reduceEqDiff, Option.isSome_some, Option.isSome_none, true_and, and_true, if_true, if_false, Bool.false_eq_true, Bool.not_true, Bool.not_false, reduceCtorEq, Nat.zero_add, Nat.zero_le, decide_eq_true_eq, Bool.not_eq_true', decide_eq_false_iff_not, ite_true, ite_false, Bool.if_false_right, Bool.if_true_left, decide_true, decide_false, Bool.true_or, Bool.or_true, Bool.false_or, Bool.or_false, Bool.true_and, Bool.and_true, Bool.false_and, Bool.and_false, List.length_map, not_true_eq_false, not_false_eq_true, false_and, and_false, bne_self_eq_false, Bool.not_eq_false]
    exact .inr (.inr ⟨t, rfl, ho, go _ _ _ (dn_self q)⟩)
end
theorem ints_of {m : Int} : ∀ {ys : List T}, (∀ y ∈ ys, ∃ c : Int, y = .int c ∧ 0 ≤ c ∧ c ≤ m) → ∃ cs : List Int, ys = cs.map T.int ∧ ∀ c ∈ cs, 0 ≤ c ∧ c ≤ m
  | [], _ => ⟨[], rfl, fun _ z => nomatch z⟩
  | y :: ys, h => by
    obtain ⟨c, rfl, c0, c1⟩ := h y List.mem_cons_self
    obtain ⟨cs, rfl, hc⟩ := ints_of (ys := ys) fun z hz => h z (List.mem_cons_of_mem _ hz)
    refine ⟨c :: cs, rfl, fun x hx => ?_⟩
    rcases List.mem_cons.mp hx with rfl | z
    · exact ⟨c0, c1⟩
    · exact hc x z
theorem ints_map {stay : Hq → Prop} {s : Sl} {h : Hq} {Q : TK} {i : Nat} {cs : List Int} {own : List Nat} (hst : stay h) (hl : cs.length ≤ 1000000) (hg : ∀ c : Int, ∃ s2 : Sl, cN i own (.int c) s = some s2 ∧ s2[i]? = some (some (.int c))) (q : Q (.lst (cs.map T.int)) h) : LcK true (cs.map T.int) stay (cN i own) tYes (eCB oInt (aCons (eVar i) aNil)) s h Q := by
  refine lcK_mA (fun c => T.int c) hst hl (fun c hc R r => ?_) (by rw [mk_true]; exact q)
  obtain ⟨s2, e1, e2⟩ := hg c
  rw [e1]
  show eCB oInt (aCons (eVar i) aNil) s2 h R E0
  simp only [e2, lim, ends, startT, eVar, eC, eOp, tOf, eChain, tAndM, tOrM, tNotM, eAndV, eOrV, eNotV, eIf, aNil, aCons, eTup, eLst, eFrz, frzK, oI, oIC, oSub, oMod, oDiv, oPow, oLt, oLe, oGt, oGe, oAdd, oMul, eNeg, oIsN, oNotN, oIx, atK, mNo, mPart, eSl, eCB, oLen, oInt, oSumL, oMax, oMin, oList, oBls, eCall, eBM, eBM0, isLs, oApp, oPop, oExt, lsOf, tTru, sNext, sSeq, sDrop, sRet, sRetN, sIf, sBreak, sCont, sNever, gN, gNil, gCons, gTup, setT, gSub, sAsg, sPar, sAug, oIxL, sAugS, oAddI, sFor, eLc, iSeq, iRange1, iRange2, iEnum, tYes, oIsi, kdOf, oEq, oNe, eqT_int, eqT_nn, eqT_in, eqT_ni,   atI_0, atI_1, atI_2, atI_3, atI_4, atI_5, atI_6, atI_7, atI_8, atI_m1, ixN_0, ixN_1,   kdN_int, kdN_bool, kdN_str, kdN_list, kdN_tuple, isK, view_int, view_non, dep_int, dep_non, cN, cN2, wipeT,   mk_true, mk_false, put_same, put_put,   List.map_cons, List.map_nil, List.length_cons, List.length_nil, List.replicate, List.cons_append, List.nil_append, List.append_nil, List.set_cons_zero, List.set_cons_succ, List.getElem?_cons_zero, List.getElem?_cons_succ, List.getElem?_nil, Nat.reduceAdd, Nat.reduceSub, Nat.reduceLeDiff, Nat.reduceLT, Nat.reduceEqDiff, Option.isSome_some, Option.isSome_none, true_and, and_true, if_true, if_false, Bool.false_eq_true, Bool.not_true, Bool.not_false, reduceCtorEq, Nat.zero_add, Nat.zero_le, decide_eq_true_eq, Bool.not_eq_true', decide_eq_false_iff_not, ite_true, ite_false, Bool.if_false_right, Bool.if_true_left, decide_true, decide_false, Bool.true_or, Bool.or_true, Bool.false_or, Bool.or_false, Bool.true_and, Bool.and_true, Bool.false_and, Bool.and_false, List.length_map, not_true_eq_false, not_false_eq_true, false_and, and_false, bne_self_eq_false, Bool.not_eq_false]
  exact r
theorem pl_law_counts : ∀ ts h Q E, ts.length = 1 → C_law_counts ts h Q E → B_law_counts (ends Q E) (startT N_law_counts.length ts) h := by
  rintro ts h Q E - ⟨p, rfl, hp, q⟩
  unfold B_law_counts
  simp only [CDraw, lim, ends, startT, eVar, eC, eOp, tOf, eChain, tAndM, tOrM, tNotM, eAndV, eOrV, eNotV, eIf, aNil, aCons, eTup, eLst, eFrz, frzK, oI, oIC, oSub, oMod, oDiv, oPow, oLt, oLe, oGt, oGe, oAdd, oMul, eNeg, oIsN, oNotN, oIx, atK, mNo, mPart, eSl, eCB, oLen, oInt, oSumL, oMax, oMin, oList, oBls, eCall, eBM, eBM0, isLs, oApp, oPop, oExt, lsOf, tTru, sNext, sSeq, sDrop, sRet, sRetN, sIf, sBreak, sCont, sNever, gN, gNil, gCons, gTup, setT, gSub, sAsg, sPar, sAug, oIxL, sAugS, oAddI, sFor, eLc, iSeq, iRange1, iRange2, iEnum, tYes, oIsi, kdOf, oEq, oNe, eqT_int, eqT_nn, eqT_in, eqT_ni,   atI_0, atI_1, atI_2, atI_3, atI_4, atI_5, atI_6, atI_7, atI_8, atI_m1, ixN_0, ixN_1,   kdN_int, kdN_bool, kdN_str, kdN_list, kdN_tuple, isK, view_int, view_non, dep_int, dep_non, cN, cN2, wipeT,   mk_true, mk_false, put_same, put_put,   List.map_cons, List.map_nil, List.length_cons, List.length_nil, List.replicate, List.cons_append, List.nil_append, List.append_nil, List.set_cons_zero, List.set_cons_succ, List.getElem?_cons_zero, List.getElem?_cons_succ, List.getElem?_nil, Nat.reduceAdd, Nat.reduceSub, Nat.reduceLeDiff, Nat.reduceLT, Nat.reduceEqDiff, Option.isSome_some, Option.isSome_none, true_and, and_true, if_true, if_false, Bool.false_eq_true, Bool.not_true, Bool.not_false, reduceCtorEq, Nat.zero_add, Nat.zero_le, decide_eq_true_eq, Bool.not_eq_true', decide_eq_false_iff_not, ite_true, ite_false, Bool.if_false_right, Bool.if_true_left, decide_true, decide_false, Bool.true_or, Bool.or_true, Bool.false_or, Bool.or_false, Bool.true_and, Bool.and_true, Bool.false_and, Bool.and_false, List.length_map, not_true_eq_false, not_false_eq_true, false_and, and_false, bne_self_eq_false, Bool.not_eq_false]
  refine ⟨p, 8, rfl, by decide, by decide, hp, fun r r0 r1 => ?_⟩
  have a0 : (-1000000:Int) ≤ 1 + r := by omega
  have a1 : 1 + r ≤ 1000000 := by omega
  simp only [a0, a1, lim, ends, startT, eVar, eC, eOp, tOf, eChain, tAndM, tOrM, tNotM, eAndV, eOrV, eNotV, eIf, aNil, aCons, eTup, eLst, eFrz, frzK, oI, oIC, oSub, oMod, oDiv, oPow, oLt, oLe, oGt, oGe, oAdd, oMul, eNeg, oIsN, oNotN, oIx, atK, mNo, mPart, eSl, eCB, oLen, oInt, oSumL, oMax, oMin, oList, oBls, eCall, eBM, eBM0, isLs, oApp, oPop, oExt, lsOf, tTru, sNext, sSeq, sDrop, sRet, sRetN, sIf, sBreak, sCont, sNever, gN, gNil, gCons, gTup, setT, gSub, sAsg, sPar, sAug, oIxL, sAugS, oAddI, sFor, eLc, iSeq, iRange1, iRange2, iEnum, tYes, oIsi, kdOf, oEq, oNe, eqT_int, eqT_nn, eqT_in, eqT_ni,   atI_0, atI_1, atI_2, atI_3, atI_4, atI_5, atI_6, atI_7, atI_8, atI_m1, ixN_0, ixN_1,   kdN_int, kdN_bool, kdN_str, kdN_list, kdN_tuple, isK, view_int, view_non, dep_int, dep_non, cN, cN2, wipeT,   mk_true, mk_false, put_same, put_put,   List.map_cons, List.map_nil, List.length_cons, List.length_nil, List.replicate, List.cons_append, List.nil_append, List.append_nil, List.set_cons_zero, List.set_cons_succ, List.getElem?_cons_zero, List.getElem?_cons_succ, List.getElem?_nil, Nat.reduceAdd, Nat.reduceSub, Nat.reduceLeDiff, Nat.reduceLT, Nat.reduceEqDiff, Option.isSome_some, Option.isSome_none, true_and, and_true, if_true, if_false, Bool.false_eq_true, Bool.not_true, Bool.not_false, reduceCtorEq, Nat.zero_add, Nat.zero_le, decide_eq_true_eq, Bool.not_eq_true', decide_eq_false_iff_not, ite_true, ite_false, Bool.if_false_right, Bool.if_true_left, decide_true, decide_false, Bool.true_or, Bool.or_true, Bool.false_or, Bool.or_false, Bool.true_and, Bool.and_true, Bool.false_and, Bool.and_false, List.length_map, not_true_eq_false, not_false_eq_true, false_and, and_false, bne_self_eq_false, Bool.not_eq_false]
  refine lcK_any (fun y => ∃ c : Int, y = .int c ∧ 0 ≤ c ∧ c ≤ 30) trivial (by rw [rng_len]; omega) (fun t ht R hR => ?_) (fun ys hl hys => ?_)
  · obtain ⟨i, hi0⟩ := List.getElem?_of_mem ht
    obtain ⟨hi, rfl⟩ := rng_at hi0
    simp only [CDraw, lim, ends, startT, eVar, eC, eOp, tOf, eChain, tAndM, tOrM, tNotM, eAndV, eOrV, eNotV, eIf, aNil, aCons, eTup, eLst, eFrz, frzK, oI, oIC, oSub, oMod, oDiv, oPow, oLt, oLe, oGt, oGe, oAdd, oMul, eNeg, oIsN, oNotN, oIx, atK, mNo, mPart, eSl, eCB, oLen, oInt, oSumL, oMax, oMin, oList, oBls, eCall, eBM, eBM0, isLs, oApp, oPop, oExt, lsOf, tTru, sNext, sSeq, sDrop, sRet, sRetN, sIf, sBreak, sCont, sNever, gN, gNil, gCons, gTup, setT, gSub, sAsg, sPar, sAug, oIxL, sAugS, oAddI, sFor, eLc, iSeq, iRange1, iRange2, iEnum, tYes, oIsi, kdOf, oEq, oNe, eqT_int, eqT_nn, eqT_in, eqT_ni,   atI_0, atI_1, atI_2, atI_3, atI_4, atI_5, atI_6, atI_7, atI_8, atI_m1, ixN_0, ixN_1,   kdN_int, kdN_bool, kdN_str, kdN_list, kdN_tuple, isK, view_int, view_non, dep_int, dep_non, cN, cN2, wipeT,   mk_true, mk_false, put_same, put_put,   List.map_cons, List.map_nil, List.length_cons, List.length_nil, List.replicate, List.cons_append, List.nil_append, List.append_nil, List.set_cons_zero, List.set_cons_succ, List.getElem?_cons_zero, List.getElem?_cons_succ, List.getElem?_nil, Nat.reduceAdd, Nat.reduceSub, Nat.reduceLeDiff, Nat.reduceLT, Nat.reduceEqDiff, Option.isSome_some, Option.isSome_none, true_and, and_true, if_true, if_false, Bool.false_eq_true, Bool.not_true, Bool.not_false, reduceCtorEq, Nat.zero_add, Nat.zero_le, decide_eq_true_eq, Bool.not_eq_true', decide_eq_false_iff_not, ite_true, ite_false, Bool.if_false_right, Bool.if_true_left, decide_true, decide_false, Bool.true_or, Bool.or_true, Bool.false_or, Bool.or_false, Bool.true_and, Bool.and_true, Bool.false_and, Bool.and_false, List.length_map, not_true_eq_false, not_false_eq_true, false_and, and_false, bne_self_eq_false, Bool.not_eq_false]
    refine ⟨p, 31, rfl, by decide, by decide, hp, fun d d0 d1 => ?_⟩
    refine ⟨p, 6, rfl, by decide, by decide, hp, fun e e0 e1 => ?_⟩
    have ce : e = 0 ∨ e = 1 ∨ e = 2 ∨ e = 3 ∨ e = 4 ∨ e = 5 := by omega
    rcases ce with rfl | rfl | rfl | rfl | rfl | rfl <;> (simp only [ends, lim, ends, startT, eVar, eC, eOp, tOf, eChain, tAndM, tOrM, tNotM, eAndV, eOrV, eNotV, eIf, aNil, aCons, eTup, eLst, eFrz, frzK, oI, oIC, oSub, oMod, oDiv, oPow, oLt, oLe, oGt, oGe, oAdd, oMul, eNeg, oIsN, oNotN, oIx, atK, mNo, mPart, eSl, eCB, oLen, oInt, oSumL, oMax, oMin, oList, oBls, eCall, eBM, eBM0, isLs, oApp, oPop, oExt, lsOf, tTru, sNext, sSeq, sDrop, sRet, sRetN, sIf, sBreak, sCont, sNever, gN, gNil, gCons, gTup, setT, gSub, sAsg, sPar, sAug, oIxL, sAugS, oAddI, sFor, eLc, iSeq, iRange1, iRange2, iEnum, tYes, oIsi, kdOf, oEq, oNe, eqT_int, eqT_nn, eqT_in, eqT_ni,   atI_0, atI_1, atI_2, atI_3, atI_4, atI_5, atI_6, atI_7, atI_8, atI_m1, ixN_0, ixN_1,   kdN_int, kdN_bool, kdN_str, kdN_list, kdN_tuple, isK, view_int, view_non, dep_int, dep_non, cN, cN2, wipeT,   mk_true, mk_false, put_same, put_put,   List.map_cons, List.map_nil, List.length_cons, List.length_nil, List.replicate, List.cons_append, List.nil_append, List.append_nil, List.set_cons_zero, List.set_cons_succ, List.getElem?_cons_zero, List.getElem?_cons_succ, List.getElem?_nil, Nat.reduceAdd, Nat.reduceSub, Nat.reduceLeDiff, Nat.reduceLT, Nat.reduceEqDiff, Option.isSome_some, Option.isSome_none, true_and, and_true, if_true, if_false, Bool.false_eq_true, Bool.not_true, Bool.not_false, reduceCtorEq, Nat.zero_add, Nat.zero_le, decide_eq_true_eq, Bool.not_eq_true', decide_eq_false_iff_not, ite_true, ite_false, Bool.if_false_right, Bool.if_true_left, decide_true, decide_false, Bool.true_or, Bool.or_true, Bool.false_or, Bool.or_false, Bool.true_and, Bool.and_true, Bool.false_and, Bool.and_false, List.length_map, not_true_eq_false, not_false_eq_true, false_and, and_false, bne_self_eq_false, Bool.not_eq_false]; exact hR _ ⟨_, rfl, by omega, by omega⟩)
  · obtain ⟨cs, rfl, hc⟩ := ints_of hys
    rw [List.length_map, rng_len] at hl
    simp only [ends, lim, ends, startT, eVar, eC, eOp, tOf, eChain, tAndM, tOrM, tNotM, eAndV, eOrV, eNotV, eIf, aNil, aCons, eTup, eLst, eFrz, frzK, oI, oIC, oSub, oMod, oDiv, oPow, oLt, oLe, oGt, oGe, oAdd, oMul, eNeg, oIsN, oNotN, oIx, atK, mNo, mPart, eSl, eCB, oLen, oInt, oSumL, oMax, oMin, oList, oBls, eCall, eBM, eBM0, isLs, oApp, oPop, oExt, lsOf, tTru, sNext, sSeq, sDrop, sRet, sRetN, sIf, sBreak, sCont, sNever, gN, gNil, gCons, gTup, setT, gSub, sAsg, sPar, sAug, oIxL, sAugS, oAddI, sFor, eLc, iSeq, iRange1, iRange2, iEnum, tYes, oIsi, kdOf, oEq, oNe, eqT_int, eqT_nn, eqT_in, eqT_ni,   atI_0, atI_1, atI_2, atI_3, atI_4, atI_5, atI_6, atI_7, atI_8, atI_m1, ixN_0, ixN_1,   kdN_int, kdN_bool, kdN_str, kdN_list, kdN_tuple, isK, view_int, view_non, dep_int, dep_non, cN, cN2, wipeT,   mk_true, mk_false, put_same, put_put,   List.map_cons, List.map_nil, List.length_cons, List.length_nil, List.replicate, List.cons_append, List.nil_append, List.append_nil, List.set_cons_zero, List.set_cons_succ, List.getElem?_cons_zero, List.getElem?_cons_succ, List.getElem?_nil, Nat.reduceAdd, Nat.reduceSub, Nat.reduceLeDiff, Nat.reduceLT, Nat.reduceEqDiff, Option.isSome_some, Option.isSome_none, true_and, and_true, if_true, if_false, Bool.false_eq_true, Bool.not_true, Bool.not_false, reduceCtorEq, Nat.zero_add, Nat.zero_le, decide_eq_true_eq, Bool.not_eq_true', decide_eq_false_iff_not, ite_true, ite_false, Bool.if_false_right, Bool.if_true_left, decide_true, decide_false, Bool.true_or, Bool.or_true, Bool.false_or, Bool.or_false, Bool.true_and, Bool.and_true, Bool.false_and, Bool.and_false, List.length_map, not_true_eq_false, not_false_eq_true, false_and, and_false, bne_self_eq_false, Bool.not_eq_false]
    intro q1 nq1
    have n1 : p ≠ q1 := ne_fresh hp nq1
    have rp : ∀ a, put h q1 a p = some .pool := fun a => by rw [put_ne n1]; exact hp
    have hl8 : cs.length ≤ 8 := by omega
    have hl1 : 1 ≤ cs.length := by omega
    refine ⟨p, 3, rfl, by decide, by decide, rp _, fun r3 r30 r31 => ?_⟩
    by_cases c3 : r3 = 0
    · subst c3
      simp only [ends, lim, ends, startT, eVar, eC, eOp, tOf, eChain, tAndM, tOrM, tNotM, eAndV, eOrV, eNotV, eIf, aNil, aCons, eTup, eLst, eFrz, frzK, oI, oIC, oSub, oMod, oDiv, oPow, oLt, oLe, oGt, oGe, oAdd, oMul, eNeg, oIsN, oNotN, oIx, atK, mNo, mPart, eSl, eCB, oLen, oInt, oSumL, oMax, oMin, oList, oBls, eCall, eBM, eBM0, isLs, oApp, oPop, oExt, lsOf, tTru, sNext, sSeq, sDrop, sRet, sRetN, sIf, sBreak, sCont, sNever, gN, gNil, gCons, gTup, setT, gSub, sAsg, sPar, sAug, oIxL, sAugS, oAddI, sFor, eLc, iSeq, iRange1, iRange2, iEnum, tYes, oIsi, kdOf, oEq, oNe, eqT_int, eqT_nn, eqT_in, eqT_ni,   atI_0, atI_1, atI_2, atI_3, atI_4, atI_5, atI_6, atI_7, atI_8, atI_m1, ixN_0, ixN_1,   kdN_int, kdN_bool, kdN_str, kdN_list, kdN_tuple, isK, view_int, view_non, dep_int, dep_non, cN, cN2, wipeT,   mk_true, mk_false, put_same, put_put,   List.map_cons, List.map_nil, List.length_cons, List.length_nil, List.replicate, List.cons_append, List.nil_append, List.append_nil, List.set_cons_zero, List.set_cons_succ, List.getElem?_cons_zero, List.getElem?_cons_succ, List.getElem?_nil, Nat.reduceAdd, Nat.reduceSub, Nat.reduceLeDiff, Nat.reduceLT, Nat.reduceEqDiff, Option.isSome_some, Option.isSome_none, true_and, and_true, if_true, if_false, Bool.false_eq_true, Bool.not_true, Bool.not_false, reduceCtorEq, Nat.zero_add, Nat.zero_le, decide_eq_true_eq, Bool.not_eq_true', decide_eq_false_iff_not, ite_true, ite_false, Bool.if_false_right, Bool.if_true_left, decide_true, decide_false, Bool.true_or, Bool.or_true, Bool.false_or, Bool.or_false, Bool.true_and, Bool.and_true, Bool.false_and, Bool.and_false, List.length_map, not_true_eq_false, not_false_eq_true, false_and, and_false, bne_self_eq_false, Bool.not_eq_false]
      refine ints_map put_same (by omega) (fun c => ⟨_, rfl, rfl⟩) ?_
      simp only [intsIn, Option.bind_some, intsOf_map, lim, ends, startT, eVar, eC, eOp, tOf, eChain, tAndM, tOrM, tNotM, eAndV, eOrV, eNotV, eIf, aNil, aCons, eTup, eLst, eFrz, frzK, oI, oIC, oSub, oMod, oDiv, oPow, oLt, oLe, oGt, oGe, oAdd, oMul, eNeg, oIsN, oNotN, oIx, atK, mNo, mPart, eSl, eCB, oLen, oInt, oSumL, oMax, oMin, oList, oBls, eCall, eBM, eBM0, isLs, oApp, oPop, oExt, lsOf, tTru, sNext, sSeq, sDrop, sRet, sRetN, sIf, sBreak, sCont, sNever, gN, gNil, gCons, gTup, setT, gSub, sAsg, sPar, sAug, oIxL, sAugS, oAddI, sFor, eLc, iSeq, iRange1, iRange2, iEnum, tYes, oIsi, kdOf, oEq, oNe, eqT_int, eqT_nn, eqT_in, eqT_ni,   atI_0, atI_1, atI_2, atI_3, atI_4, atI_5, atI_6, atI_7, atI_8, atI_m1, ixN_0, ixN_1,   kdN_int, kdN_bool, kdN_str, kdN_list, kdN_tuple, isK, view_int, view_non, dep_int, dep_non, cN, cN2, wipeT,   mk_true, mk_false, put_same, put_put,   List.map_cons, List.map_nil, List.length_cons, List.length_nil, List.replicate, List.cons_append, List.nil_append, List.append_nil, List.set_cons_zero, List.set_cons_succ, List.getElem?_cons_zero, List.getElem?_cons_succ, List.getElem?_nil, Nat.reduceAdd, Nat.reduceSub, Nat.reduceLeDiff, Nat.reduceLT, Nat.reduceEqDiff, Option.isSome_some, Option.isSome_none, true_and, and_true, if_true, if_false, Bool.false_eq_true, Bool.not_true, Bool.not_false, reduceCtorEq, Nat.zero_add, Nat.zero_le, decide_eq_true_eq, Bool.not_eq_true', decide_eq_false_iff_not, ite_true, ite_false, Bool.if_false_right, Bool.if_true_left, decide_true, decide_false, Bool.true_or, Bool.or_true, Bool.false_or, Bool.or_false, Bool.true_and, Bool.and_true, Bool.false_and, Bool.and_false, List.length_map, not_true_eq_false, not_false_eq_true, false_and, and_false, bne_self_eq_false, Bool.not_eq_false]
      refine ⟨p, 4, rfl, by decide, by decide, rp _, fun r4 r40 r41 => ?_⟩
      refine ⟨p, cs.length, rfl, by omega, Int.lt_of_lt_of_le (show (cs.length : Int) < 9 by omega) (by decide), rp _, fun r5 r50 r51 => ?_⟩
      obtain ⟨j, rfl⟩ := Int.eq_ofNat_of_zero_le r50
      have hj : j < cs.length := by omega
      have hix : ixN cs.length (j : Int) = some j := ixN_nat hj
      simp only [hix, lim, ends, startT, eVar, eC, eOp, tOf, eChain, tAndM, tOrM, tNotM, eAndV, eOrV, eNotV, eIf, aNil, aCons, eTup, eLst, eFrz, frzK, oI, oIC, oSub, oMod, oDiv, oPow, oLt, oLe, oGt, oGe, oAdd, oMul, eNeg, oIsN, oNotN, oIx, atK, mNo, mPart, eSl, eCB, oLen, oInt, oSumL, oMax, oMin, oList, oBls, eCall, eBM, eBM0, isLs, oApp, oPop, oExt, lsOf, tTru, sNext, sSeq, sDrop, sRet, sRetN, sIf, sBreak, sCont, sNever, gN, gNil, gCons, gTup, setT, gSub, sAsg, sPar, sAug, oIxL, sAugS, oAddI, sFor, eLc, iSeq, iRange1, iRange2, iEnum, tYes, oIsi, kdOf, oEq, oNe, eqT_int, eqT_nn, eqT_in, eqT_ni,   atI_0, atI_1, atI_2, atI_3, atI_4, atI_5, atI_6, atI_7, atI_8, atI_m1, ixN_0, ixN_1,   kdN_int, kdN_bool, kdN_str, kdN_list, kdN_tuple, isK, view_int, view_non, dep_int, dep_non, cN, cN2, wipeT,   mk_true, mk_false, put_same, put_put,   List.map_cons, List.map_nil, List.length_cons, List.length_nil, List.replicate, List.cons_append, List.nil_append, List.append_nil, List.set_cons_zero, List.set_cons_succ, List.getElem?_cons_zero, List.getElem?_cons_succ, List.getElem?_nil, Nat.reduceAdd, Nat.reduceSub, Nat.reduceLeDiff, Nat.reduceLT, Nat.reduceEqDiff, Option.isSome_some, Option.isSome_none, true_and, and_true, if_true, if_false, Bool.false_eq_true, Bool.not_true, Bool.not_false, reduceCtorEq, Nat.zero_add, Nat.zero_le, decide_eq_true_eq, Bool.not_eq_true', decide_eq_false_iff_not, ite_true, ite_false, Bool.if_false_right, Bool.if_true_left, decide_true, decide_false, Bool.true_or, Bool.or_true, Bool.false_or, Bool.or_false, Bool.true_and, Bool.and_true, Bool.false_and, Bool.and_false, List.length_map, not_true_eq_false, not_false_eq_true, false_and, and_false, bne_self_eq_false, Bool.not_eq_false]
      have hs0 := GM.sum_pos (l := cs) fun c hh => (hc c hh).1
      have hs1 := sum_le (m := 30) cs fun c hh => (hc c hh).2
      have e1 : (cs.map T.int).set j (.int (cs.sum + r4)) = (cs.set j (cs.sum + r4)).map T.int := by rw [List.map_set]
      rw [e1]
      refine dn_self (q _ (by simpa using hl1) (by simpa using hl8) (fun c hh => ?_) q1 nq1)
      rcases List.mem_or_eq_of_mem_set hh with z | z
      · have := hc c z; omega
      · omega
    · simp only [c3, lim, ends, startT, eVar, eC, eOp, tOf, eChain, tAndM, tOrM, tNotM, eAndV, eOrV, eNotV, eIf, aNil, aCons, eTup, eLst, eFrz, frzK, oI, oIC, oSub, oMod, oDiv, oPow, oLt, oLe, oGt, oGe, oAdd, oMul, eNeg, oIsN, oNotN, oIx, atK, mNo, mPart, eSl, eCB, oLen, oInt, oSumL, oMax, oMin, oList, oBls, eCall, eBM, eBM0, isLs, oApp, oPop, oExt, lsOf, tTru, sNext, sSeq, sDrop, sRet, sRetN, sIf, sBreak, sCont, sNever, gN, gNil, gCons, gTup, setT, gSub, sAsg, sPar, sAug, oIxL, sAugS, oAddI, sFor, eLc, iSeq, iRange1, iRange2, iEnum, tYes, oIsi, kdOf, oEq, oNe, eqT_int, eqT_nn, eqT_in, eqT_ni,   atI_0, atI_1, atI_2, atI_3, atI_4, atI_5, atI_6, atI_7, atI_8, atI_m1, ixN_0, ixN_1,   kdN_int, kdN_bool, kdN_str, kdN_list, kdN_tuple, isK, view_int, view_non, dep_int, dep_non, cN, cN2, wipeT,   mk_true, mk_false, put_same, put_put,   List.map_cons, List.map_nil, List.length_cons, List.length_nil, List.replicate, List.cons_append, List.nil_append, List.append_nil, List.set_cons_zero, List.set_cons_succ, List.getElem?_cons_zero, List.getElem?_cons_succ, List.getElem?_nil, Nat.reduceAdd, Nat.reduceSub, Nat.reduceLeDiff, Nat.reduceLT, Nat.reduceEqDiff, Option.isSome_some, Option.isSome_none, true_and, and_true, if_true, if_false, Bool.false_eq_true, Bool.not_true, Bool.not_false, reduceCtorEq, Nat.zero_add, Nat.zero_le, decide_eq_true_eq, Bool.not_eq_true', decide_eq_false_iff_not, ite_true, ite_false, Bool.if_false_right, Bool.if_true_left, decide_true, decide_false, Bool.true_or, Bool.or_true, Bool.false_or, Bool.or_false, Bool.true_and, Bool.and_true, Bool.false_and, Bool.and_false, List.length_map, not_true_eq_false, not_false_eq_true, false_and, and_false, bne_self_eq_false, Bool.not_eq_false]
      exact dn_self (q cs hl1 hl8 (fun c hh => by have := hc c hh; omega) q1 nq1)
theorem seq_gen {a b : SM} {D : En} {s : Sl} {h : Hq} (h1 : ∀ N : SK, (∀ s h, b D s h → N s h) → a { nx := N, rt := D.rt, bk := D.bk, ct := D.ct, ex := D.ex } s h) : sSeq a b D s h := h1 _ fun _ _ q => q
theorem gN_go {i : Nat} {t : T} {s : Sl} {h : Hq} {Q : SK} {E : EX} (q : Q (s.set i (some t)) h) : gN i t s h Q E := q
theorem cut_lo (xs : List T) (a : Nat) (h : a ≤ xs.length) : cutT xs none (some (a : Int)) = xs.take a := by
  unfold cutT
  rw [HT.sIx_none, HT.sIx_nat, Nat.min_eq_left (by omega), Nat.sub_zero, List.drop_zero]
theorem cut_hi (xs : List T) (a : Nat) (h : a < xs.length) : cutT xs (some ((a : Int) + 1)) none = xs.drop (a + 1) := by
  unfold cutT
  rw [HT.sIx_none, show ((a : Int) + 1) = ((a + 1 : Nat) : Int) by omega, HT.sIx_nat, Nat.min_eq_left (by omega)]
  rw [List.take_of_length_le (l := xs.drop (a + 1)) (by rw [List.length_drop]; omega)]
theorem ord_len {cs : List Int} (hp : GM.pos cs) : ((GM.order cs).length : Int) = cs.sum := (GM.order_isOrd hp).1
theorem ord_count {cs : List Int} (hp : GM.pos cs) (j : Nat) : (((GM.order cs).filterMap fun x => if (x == j) = true then some (nI x) else none).length : Int) = cs.getD j 0 := by
  rw [filterMap_ite, List.length_map, ← List.countP_eq_length_filter]
  exact (GM.order_isOrd hp).2.2 j
theorem range_get (cs : List Int) : ((List.range cs.length).map fun j => T.int (cs.getD j 0)) = cs.map T.int := by
  apply List.ext_getElem (by simp)
  intro i h1 h2
  simp at h1
  simp [h1]
theorem getD_le {cs : List Int} {m : Int} (h0 : 0 ≤ m) (h : ∀ y ∈ cs, y ≤ m) (i : Nat) : cs.getD i 0 ≤ m := by
  rw [List.getD_eq_getElem?_getD]
  cases z : cs[i]? with
  | none => exact h0
  | some c => exact h c (List.mem_of_getElem? z)
theorem g1999 : GM.changes none (GM.order [1000, 999]) = 1999 := by
  have hp : GM.pos [1000, 999] := by unfold GM.pos; decide
  have := GM.order_groups (cs := [1000, 999]) hp (m := 0) (fun i => getD_le (by decide) (by decide) i)
  have e : (([1000, 999] : List Int).getD 0 0) = 1000 := rfl
  have e2 : ([1000, 999] : List Int).sum = 1999 := by decide
  rw [e, e2] at this
  simp at this
  omega
section
variable {K : PySem.W.Frag} {mg : Str → Option Value} {a : Ad}
theorem odd_items : ∀ t ∈ ([.non, .lst [], .tup [.int 1, .int 2], .lst [.int 1, .int 1, .int 1, .int 1, .int 1, .int 1, .int 1, .int 1, .int 1], .str "12", .int 3] : List T), oddT t = true := by
  intro t ht
  simp only [List.mem_cons, List.not_mem_nil, or_false] at ht
  rcases ht with rfl | rfl | rfl | rfl | rfl | rfl <;> rfl
theorem sz_cln (t : T) (h : cln 1 t = true) : cln 2 (.tup [.str "sizes", t]) = true := by
  show ([T.str "sizes", t]).all (cln 1) = true
  simp only [List.all_cons, List.all_nil, h, Bool.and_true]
  decide +kernel
theorem pl_law (Z : Tx K mg a) : ∀ ts h Q E, ts.length = 1 → C_law ts h Q E → B_law K a (ends Q E) (startT N_law.length ts) h := by
  rintro ts h Q E - ⟨ns, rfl, hn, q⟩
  unfold B_law
  have hmn : ∃ m : Nat, m ≤ 8 ∧ ((if (if (8 : Int) < (ns.length : Int) then (8 : Int) else (ns.length : Int)) > 1 then (if (8 : Int) < (ns.length : Int) then (8 : Int) else (ns.length : Int)) else 1) = (m : Int)) := by
    refine ⟨(if (if (8 : Int) < (ns.length : Int) then (8 : Int) else (ns.length : Int)) > 1 then (if (8 : Int) < (ns.length : Int) then (8 : Int) else (ns.length : Int)) else 1).toNat, ?_, ?_⟩ <;> (split <;> split <;> omega)
  obtain ⟨m, m8, em⟩ := hmn
  have m0 : (-1000000 : Int) ≤ (m : Int) := by omega
  have m1 : (m : Int) ≤ 1000000 := by omega
  refine seq_gen fun N kN => ?_
  simp only [C_order_of, lim, ends, startT, eVar, eC, eOp, tOf, eChain, tAndM, tOrM, tNotM, eAndV, eOrV, eNotV, eIf, aNil, aCons, eTup, eLst, eFrz, frzK, oI, oIC, oSub, oMod, oDiv, oPow, oLt, oLe, oGt, oGe, oAdd, oMul, eNeg, oIsN, oNotN, oIx, atK, mNo, mPart, eSl, eCB, oLen, oInt, oSumL, oMax, oMin, oList, oBls, eCall, eBM, eBM0, isLs, oApp, oPop, oExt, lsOf, tTru, sNext, sSeq, sDrop, sRet, sRetN, sIf, sBreak, sCont, sNever, gN, gNil, gCons, gTup, setT, gSub, sAsg, sPar, sAug, oIxL, sAugS, oAddI, sFor, eLc, iSeq, iRange1, iRange2, iEnum, tYes, oIsi, kdOf, oEq, oNe, eqT_int, eqT_nn, eqT_in, eqT_ni,   atI_0, atI_1, atI_2, atI_3, atI_4, atI_5, atI_6, atI_7, atI_8, atI_m1, ixN_0, ixN_1,   kdN_int, kdN_bool, kdN_str, kdN_list, kdN_tuple, isK, view_int, view_non, dep_int, dep_non, cN, cN2, wipeT,   mk_true, mk_false, put_same, put_put,   List.map_cons, List.map_nil, List.length_cons, List.length_nil, List.replicate, List.cons_append, List.nil_append, List.append_nil, List.set_cons_zero, List.set_cons_succ, List.getElem?_cons_zero, List.getElem?_cons_succ, List.getElem?_nil, Nat.reduceAdd, Nat.reduceSub, Nat.reduceLeDiff, Nat.reduceLT, Nat.reduceEqDiff, Option.isSome_some, Option.isSome_none, true_and, and_true, if_true, if_false, Bool.false_eq_true, Bool.not_true, Bool.not_false, reduceCtorEq, Nat.zero_add, Nat.zero_le, decide_eq_true_eq, Bool.not_eq_true', decide_eq_false_iff_not, ite_true, ite_false, Bool.if_false_right, Bool.if_true_left, decide_true, decide_false, Bool.true_or, Bool.or_true, Bool.false_or, Bool.or_false, Bool.true_and, Bool.and_true, Bool.false_and, Bool.and_false, List.length_map, not_true_eq_false, not_false_eq_true, false_and, and_false, bne_self_eq_false, Bool.not_eq_false]
  refine .inl ⟨[1000], rfl, by decide, by decide, by decide, fun p0 np0 => ?_⟩
  have e1 : ((GM.order [1000]).length : Int) = 1000 := (ord_len (by unfold GM.pos; decide)).trans (by decide)
  simp only [del_put np0, e1, lim, ends, startT, eVar, eC, eOp, tOf, eChain, tAndM, tOrM, tNotM, eAndV, eOrV, eNotV, eIf, aNil, aCons, eTup, eLst, eFrz, frzK, oI, oIC, oSub, oMod, oDiv, oPow, oLt, oLe, oGt, oGe, oAdd, oMul, eNeg, oIsN, oNotN, oIx, atK, mNo, mPart, eSl, eCB, oLen, oInt, oSumL, oMax, oMin, oList, oBls, eCall, eBM, eBM0, isLs, oApp, oPop, oExt, lsOf, tTru, sNext, sSeq, sDrop, sRet, sRetN, sIf, sBreak, sCont, sNever, gN, gNil, gCons, gTup, setT, gSub, sAsg, sPar, sAug, oIxL, sAugS, oAddI, sFor, eLc, iSeq, iRange1, iRange2, iEnum, tYes, oIsi, kdOf, oEq, oNe, eqT_int, eqT_nn, eqT_in, eqT_ni,   atI_0, atI_1, atI_2, atI_3, atI_4, atI_5, atI_6, atI_7, atI_8, atI_m1, ixN_0, ixN_1,   kdN_int, kdN_bool, kdN_str, kdN_list, kdN_tuple, isK, view_int, view_non, dep_int, dep_non, cN, cN2, wipeT,   mk_true, mk_false, put_same, put_put,   List.map_cons, List.map_nil, List.length_cons, List.length_nil, List.replicate, List.cons_append, List.nil_append, List.append_nil, List.set_cons_zero, List.set_cons_succ, List.getElem?_cons_zero, List.getElem?_cons_succ, List.getElem?_nil, Nat.reduceAdd, Nat.reduceSub, Nat.reduceLeDiff, Nat.reduceLT, Nat.reduceEqDiff, Option.isSome_some, Option.isSome_none, true_and, and_true, if_true, if_false, Bool.false_eq_true, Bool.not_true, Bool.not_false, reduceCtorEq, Nat.zero_add, Nat.zero_le, decide_eq_true_eq, Bool.not_eq_true', decide_eq_false_iff_not, ite_true, ite_false, Bool.if_false_right, Bool.if_true_left, decide_true, decide_false, Bool.true_or, Bool.or_true, Bool.false_or, Bool.or_false, Bool.true_and, Bool.and_true, Bool.false_and, Bool.and_false, List.length_map, not_true_eq_false, not_false_eq_true, false_and, and_false, bne_self_eq_false, Bool.not_eq_false]
  refine .inl ⟨[1000, 999], rfl, by decide, by decide, by decide, fun p1 np1 => ?_⟩
  have e2 : ((GM.order [1000, 999]).length : Int) = 1999 := (ord_len (by unfold GM.pos; decide)).trans (by decide)
  simp only [del_put np1, C_law_groups, lim, ends, startT, eVar, eC, eOp, tOf, eChain, tAndM, tOrM, tNotM, eAndV, eOrV, eNotV, eIf, aNil, aCons, eTup, eLst, eFrz, frzK, oI, oIC, oSub, oMod, oDiv, oPow, oLt, oLe, oGt, oGe, oAdd, oMul, eNeg, oIsN, oNotN, oIx, atK, mNo, mPart, eSl, eCB, oLen, oInt, oSumL, oMax, oMin, oList, oBls, eCall, eBM, eBM0, isLs, oApp, oPop, oExt, lsOf, tTru, sNext, sSeq, sDrop, sRet, sRetN, sIf, sBreak, sCont, sNever, gN, gNil, gCons, gTup, setT, gSub, sAsg, sPar, sAug, oIxL, sAugS, oAddI, sFor, eLc, iSeq, iRange1, iRange2, iEnum, tYes, oIsi, kdOf, oEq, oNe, eqT_int, eqT_nn, eqT_in, eqT_ni,   atI_0, atI_1, atI_2, atI_3, atI_4, atI_5, atI_6, atI_7, atI_8, atI_m1, ixN_0, ixN_1,   kdN_int, kdN_bool, kdN_str, kdN_list, kdN_tuple, isK, view_int, view_non, dep_int, dep_non, cN, cN2, wipeT,   mk_true, mk_false, put_same, put_put,   List.map_cons, List.map_nil, List.length_cons, List.length_nil, List.replicate, List.cons_append, List.nil_append, List.append_nil, List.set_cons_zero, List.set_cons_succ, List.getElem?_cons_zero, List.getElem?_cons_succ, List.getElem?_nil, Nat.reduceAdd, Nat.reduceSub, Nat.reduceLeDiff, Nat.reduceLT, Nat.reduceEqDiff, Option.isSome_some, Option.isSome_none, true_and, and_true, if_true, if_false, Bool.false_eq_true, Bool.not_true, Bool.not_false, reduceCtorEq, Nat.zero_add, Nat.zero_le, decide_eq_true_eq, Bool.not_eq_true', decide_eq_false_iff_not, ite_true, ite_false, Bool.if_false_right, Bool.if_true_left, decide_true, decide_false, Bool.true_or, Bool.or_true, Bool.false_or, Bool.or_false, Bool.true_and, Bool.and_true, Bool.false_and, Bool.and_false, List.length_map, not_true_eq_false, not_false_eq_true, false_and, and_false, bne_self_eq_false, Bool.not_eq_false]
  refine ⟨GM.order [1000, 999], rfl, by omega, ?_⟩
  rw [g1999]
  have e3 : ((1999 : Nat) : Int) = 1999 := rfl
  simp only [e3, lim, ends, startT, eVar, eC, eOp, tOf, eChain, tAndM, tOrM, tNotM, eAndV, eOrV, eNotV, eIf, aNil, aCons, eTup, eLst, eFrz, frzK, oI, oIC, oSub, oMod, oDiv, oPow, oLt, oLe, oGt, oGe, oAdd, oMul, eNeg, oIsN, oNotN, oIx, atK, mNo, mPart, eSl, eCB, oLen, oInt, oSumL, oMax, oMin, oList, oBls, eCall, eBM, eBM0, isLs, oApp, oPop, oExt, lsOf, tTru, sNext, sSeq, sDrop, sRet, sRetN, sIf, sBreak, sCont, sNever, gN, gNil, gCons, gTup, setT, gSub, sAsg, sPar, sAug, oIxL, sAugS, oAddI, sFor, eLc, iSeq, iRange1, iRange2, iEnum, tYes, oIsi, kdOf, oEq, oNe, eqT_int, eqT_nn, eqT_in, eqT_ni,   atI_0, atI_1, atI_2, atI_3, atI_4, atI_5, atI_6, atI_7, atI_8, atI_m1, ixN_0, ixN_1,   kdN_int, kdN_bool, kdN_str, kdN_list, kdN_tuple, isK, view_int, view_non, dep_int, dep_non, cN, cN2, wipeT,   mk_true, mk_false, put_same, put_put,   List.map_cons, List.map_nil, List.length_cons, List.length_nil, List.replicate, List.cons_append, List.nil_append, List.append_nil, List.set_cons_zero, List.set_cons_succ, List.getElem?_cons_zero, List.getElem?_cons_succ, List.getElem?_nil, Nat.reduceAdd, Nat.reduceSub, Nat.reduceLeDiff, Nat.reduceLT, Nat.reduceEqDiff, Option.isSome_some, Option.isSome_none, true_and, and_true, if_true, if_false, Bool.false_eq_true, Bool.not_true, Bool.not_false, reduceCtorEq, Nat.zero_add, Nat.zero_le, decide_eq_true_eq, Bool.not_eq_true', decide_eq_false_iff_not, ite_true, ite_false, Bool.if_false_right, Bool.if_true_left, decide_true, decide_false, Bool.true_or, Bool.or_true, Bool.false_or, Bool.or_false, Bool.true_and, Bool.and_true, Bool.false_and, Bool.and_false, List.length_map, not_true_eq_false, not_false_eq_true, false_and, and_false, bne_self_eq_false, Bool.not_eq_false]
  refine kN _ _ ?_
  clear kN N e1 e2 e3 np0 np1
  refine seq_gen fun N kN => ?_
  simp only [em, m0, m1, Int.toNat_natCast, lim, ends, startT, eVar, eC, eOp, tOf, eChain, tAndM, tOrM, tNotM, eAndV, eOrV, eNotV, eIf, aNil, aCons, eTup, eLst, eFrz, frzK, oI, oIC, oSub, oMod, oDiv, oPow, oLt, oLe, oGt, oGe, oAdd, oMul, eNeg, oIsN, oNotN, oIx, atK, mNo, mPart, eSl, eCB, oLen, oInt, oSumL, oMax, oMin, oList, oBls, eCall, eBM, eBM0, isLs, oApp, oPop, oExt, lsOf, tTru, sNext, sSeq, sDrop, sRet, sRetN, sIf, sBreak, sCont, sNever, gN, gNil, gCons, gTup, setT, gSub, sAsg, sPar, sAug, oIxL, sAugS, oAddI, sFor, eLc, iSeq, iRange1, iRange2, iEnum, tYes, oIsi, kdOf, oEq, oNe, eqT_int, eqT_nn, eqT_in, eqT_ni,   atI_0, atI_1, atI_2, atI_3, atI_4, atI_5, atI_6, atI_7, atI_8, atI_m1, ixN_0, ixN_1,   kdN_int, kdN_bool, kdN_str, kdN_list, kdN_tuple, isK, view_int, view_non, dep_int, dep_non, cN, cN2, wipeT,   mk_true, mk_false, put_same, put_put,   List.map_cons, List.map_nil, List.length_cons, List.length_nil, List.replicate, List.cons_append, List.nil_append, List.append_nil, List.set_cons_zero, List.set_cons_succ, List.getElem?_cons_zero, List.getElem?_cons_succ, List.getElem?_nil, Nat.reduceAdd, Nat.reduceSub, Nat.reduceLeDiff, Nat.reduceLT, Nat.reduceEqDiff, Option.isSome_some, Option.isSome_none, true_and, and_true, if_true, if_false, Bool.false_eq_true, Bool.not_true, Bool.not_false, reduceCtorEq, Nat.zero_add, Nat.zero_le, decide_eq_true_eq, Bool.not_eq_true', decide_eq_false_iff_not, ite_true, ite_false, Bool.if_false_right, Bool.if_true_left, decide_true, decide_false, Bool.true_or, Bool.or_true, Bool.false_or, Bool.or_false, Bool.true_and, Bool.and_true, Bool.false_and, Bool.and_false, List.length_map, not_true_eq_false, not_false_eq_true, false_and, and_false, bne_self_eq_false, Bool.not_eq_false]
  refine forK_go (fun i s h' => ∃ x1 x2 x3 x4 x5 x6 x7 x8 x9 x10 x11 x12, s = [some (.scr ns), x1, x2, x3, x4, x5, x6, x7, x8, x9, x10, x11, x12]) ⟨none, none, none, none, none, none, none, none, none, none, none, none, rfl⟩ ?_ ?_
  · rintro s h' ⟨x1, x2, x3, x4, x5, x6, x7, x8, x9, x10, x11, x12, rfl⟩
    refine ⟨trivial, kN _ _ ?_⟩
    simp only [ends, lim, ends, startT, eVar, eC, eOp, tOf, eChain, tAndM, tOrM, tNotM, eAndV, eOrV, eNotV, eIf, aNil, aCons, eTup, eLst, eFrz, frzK, oI, oIC, oSub, oMod, oDiv, oPow, oLt, oLe, oGt, oGe, oAdd, oMul, eNeg, oIsN, oNotN, oIx, atK, mNo, mPart, eSl, eCB, oLen, oInt, oSumL, oMax, oMin, oList, oBls, eCall, eBM, eBM0, isLs, oApp, oPop, oExt, lsOf, tTru, sNext, sSeq, sDrop, sRet, sRetN, sIf, sBreak, sCont, sNever, gN, gNil, gCons, gTup, setT, gSub, sAsg, sPar, sAug, oIxL, sAugS, oAddI, sFor, eLc, iSeq, iRange1, iRange2, iEnum, tYes, oIsi, kdOf, oEq, oNe, eqT_int, eqT_nn, eqT_in, eqT_ni,   atI_0, atI_1, atI_2, atI_3, atI_4, atI_5, atI_6, atI_7, atI_8, atI_m1, ixN_0, ixN_1,   kdN_int, kdN_bool, kdN_str, kdN_list, kdN_tuple, isK, view_int, view_non, dep_int, dep_non, cN, cN2, wipeT,   mk_true, mk_false, put_same, put_put,   List.map_cons, List.map_nil, List.length_cons, List.length_nil, List.replicate, List.cons_append, List.nil_append, List.append_nil, List.set_cons_zero, List.set_cons_succ, List.getElem?_cons_zero, List.getElem?_cons_succ, List.getElem?_nil, Nat.reduceAdd, Nat.reduceSub, Nat.reduceLeDiff, Nat.reduceLT, Nat.reduceEqDiff, Option.isSome_some, Option.isSome_none, true_and, and_true, if_true, if_false, Bool.false_eq_true, Bool.not_true, Bool.not_false, reduceCtorEq, Nat.zero_add, Nat.zero_le, decide_eq_true_eq, Bool.not_eq_true', decide_eq_false_iff_not, ite_true, ite_false, Bool.if_false_right, Bool.if_true_left, decide_true, decide_false, Bool.true_or, Bool.or_true, Bool.false_or, Bool.or_false, Bool.true_and, Bool.and_true, Bool.false_and, Bool.and_false, List.length_map, not_true_eq_false, not_false_eq_true, false_and, and_false, bne_self_eq_false, Bool.not_eq_false]
    exact dn_self (q _)
  clear kN
  rintro k t s h' ek ⟨x1, x2, x3, x4, x5, x6, x7, x8, x9, x10, x11, x12, rfl⟩
  obtain ⟨hk, rfl⟩ := rng_at ek
  refine ⟨trivial, gN_go ?_⟩
  refine seq_gen fun N kN => ?_
  simp only [CHand, lim, ends, startT, eVar, eC, eOp, tOf, eChain, tAndM, tOrM, tNotM, eAndV, eOrV, eNotV, eIf, aNil, aCons, eTup, eLst, eFrz, frzK, oI, oIC, oSub, oMod, oDiv, oPow, oLt, oLe, oGt, oGe, oAdd, oMul, eNeg, oIsN, oNotN, oIx, atK, mNo, mPart, eSl, eCB, oLen, oInt, oSumL, oMax, oMin, oList, oBls, eCall, eBM, eBM0, isLs, oApp, oPop, oExt, lsOf, tTru, sNext, sSeq, sDrop, sRet, sRetN, sIf, sBreak, sCont, sNever, gN, gNil, gCons, gTup, setT, gSub, sAsg, sPar, sAug, oIxL, sAugS, oAddI, sFor, eLc, iSeq, iRange1, iRange2, iEnum, tYes, oIsi, kdOf, oEq, oNe, eqT_int, eqT_nn, eqT_in, eqT_ni,   atI_0, atI_1, atI_2, atI_3, atI_4, atI_5, atI_6, atI_7, atI_8, atI_m1, ixN_0, ixN_1,   kdN_int, kdN_bool, kdN_str, kdN_list, kdN_tuple, isK, view_int, view_non, dep_int, dep_non, cN, cN2, wipeT,   mk_true, mk_false, put_same, put_put,   List.map_cons, List.map_nil, List.length_cons, List.length_nil, List.replicate, List.cons_append, List.nil_append, List.append_nil, List.set_cons_zero, List.set_cons_succ, List.getElem?_cons_zero, List.getElem?_cons_succ, List.getElem?_nil, Nat.reduceAdd, Nat.reduceSub, Nat.reduceLeDiff, Nat.reduceLT, Nat.reduceEqDiff, Option.isSome_some, Option.isSome_none, true_and, and_true, if_true, if_false, Bool.false_eq_true, Bool.not_true, Bool.not_false, reduceCtorEq, Nat.zero_add, Nat.zero_le, decide_eq_true_eq, Bool.not_eq_true', decide_eq_false_iff_not, ite_true, ite_false, Bool.if_false_right, Bool.if_true_left, decide_true, decide_false, Bool.true_or, Bool.or_true, Bool.false_or, Bool.or_false, Bool.true_and, Bool.and_true, Bool.false_and, Bool.and_false, List.length_map, not_true_eq_false, not_false_eq_true, false_and, and_false, bne_self_eq_false, Bool.not_eq_false]
  refine ⟨ns, _, rfl, by omega, by omega, hn, fun p np => kN _ _ ?_⟩
  clear kN N
  refine seq_gen fun N kN => ?_
  simp only [C_law_counts, lim, ends, startT, eVar, eC, eOp, tOf, eChain, tAndM, tOrM, tNotM, eAndV, eOrV, eNotV, eIf, aNil, aCons, eTup, eLst, eFrz, frzK, oI, oIC, oSub, oMod, oDiv, oPow, oLt, oLe, oGt, oGe, oAdd, oMul, eNeg, oIsN, oNotN, oIx, atK, mNo, mPart, eSl, eCB, oLen, oInt, oSumL, oMax, oMin, oList, oBls, eCall, eBM, eBM0, isLs, oApp, oPop, oExt, lsOf, tTru, sNext, sSeq, sDrop, sRet, sRetN, sIf, sBreak, sCont, sNever, gN, gNil, gCons, gTup, setT, gSub, sAsg, sPar, sAug, oIxL, sAugS, oAddI, sFor, eLc, iSeq, iRange1, iRange2, iEnum, tYes, oIsi, kdOf, oEq, oNe, eqT_int, eqT_nn, eqT_in, eqT_ni,   atI_0, atI_1, atI_2, atI_3, atI_4, atI_5, atI_6, atI_7, atI_8, atI_m1, ixN_0, ixN_1,   kdN_int, kdN_bool, kdN_str, kdN_list, kdN_tuple, isK, view_int, view_non, dep_int, dep_non, cN, cN2, wipeT,   mk_true, mk_false, put_same, put_put,   List.map_cons, List.map_nil, List.length_cons, List.length_nil, List.replicate, List.cons_append, List.nil_append, List.append_nil, List.set_cons_zero, List.set_cons_succ, List.getElem?_cons_zero, List.getElem?_cons_succ, List.getElem?_nil, Nat.reduceAdd, Nat.reduceSub, Nat.reduceLeDiff, Nat.reduceLT, Nat.reduceEqDiff, Option.isSome_some, Option.isSome_none, true_and, and_true, if_true, if_false, Bool.false_eq_true, Bool.not_true, Bool.not_false, reduceCtorEq, Nat.zero_add, Nat.zero_le, decide_eq_true_eq, Bool.not_eq_true', decide_eq_false_iff_not, ite_true, ite_false, Bool.if_false_right, Bool.if_true_left, decide_true, decide_false, Bool.true_or, Bool.or_true, Bool.false_or, Bool.or_false, Bool.true_and, Bool.and_true, Bool.false_and, Bool.and_false, List.length_map, not_true_eq_false, not_false_eq_true, false_and, and_false, bne_self_eq_false, Bool.not_eq_false]
  refine ⟨p, rfl, put_same, fun cs l1 l8 hc q1 nq1 => ?_⟩
  have hp : GM.pos cs := fun c hh => (hc c hh).1
  have hs0 := GM.sum_pos hp
  have hs1 := sum_le (m := 1000) cs fun c hh => (hc c hh).2
  have hol := ord_len hp
  simp only [del_put nq1, lim, ends, startT, eVar, eC, eOp, tOf, eChain, tAndM, tOrM, tNotM, eAndV, eOrV, eNotV, eIf, aNil, aCons, eTup, eLst, eFrz, frzK, oI, oIC, oSub, oMod, oDiv, oPow, oLt, oLe, oGt, oGe, oAdd, oMul, eNeg, oIsN, oNotN, oIx, atK, mNo, mPart, eSl, eCB, oLen, oInt, oSumL, oMax, oMin, oList, oBls, eCall, eBM, eBM0, isLs, oApp, oPop, oExt, lsOf, tTru, sNext, sSeq, sDrop, sRet, sRetN, sIf, sBreak, sCont, sNever, gN, gNil, gCons, gTup, setT, gSub, sAsg, sPar, sAug, oIxL, sAugS, oAddI, sFor, eLc, iSeq, iRange1, iRange2, iEnum, tYes, oIsi, kdOf, oEq, oNe, eqT_int, eqT_nn, eqT_in, eqT_ni,   atI_0, atI_1, atI_2, atI_3, atI_4, atI_5, atI_6, atI_7, atI_8, atI_m1, ixN_0, ixN_1,   kdN_int, kdN_bool, kdN_str, kdN_list, kdN_tuple, isK, view_int, view_non, dep_int, dep_non, cN, cN2, wipeT,   mk_true, mk_false, put_same, put_put,   List.map_cons, List.map_nil, List.length_cons, List.length_nil, List.replicate, List.cons_append, List.nil_append, List.append_nil, List.set_cons_zero, List.set_cons_succ, List.getElem?_cons_zero, List.getElem?_cons_succ, List.getElem?_nil, Nat.reduceAdd, Nat.reduceSub, Nat.reduceLeDiff, Nat.reduceLT, Nat.reduceEqDiff, Option.isSome_some, Option.isSome_none, true_and, and_true, if_true, if_false, Bool.false_eq_true, Bool.not_true, Bool.not_false, reduceCtorEq, Nat.zero_add, Nat.zero_le, decide_eq_true_eq, Bool.not_eq_true', decide_eq_false_iff_not, ite_true, ite_false, Bool.if_false_right, Bool.if_true_left, decide_true, decide_false, Bool.true_or, Bool.or_true, Bool.false_or, Bool.or_false, Bool.true_and, Bool.and_true, Bool.false_and, Bool.and_false, List.length_map, not_true_eq_false, not_false_eq_true, false_and, and_false, bne_self_eq_false, Bool.not_eq_false]
  refine kN _ _ ?_
  clear kN N
  refine seq_gen fun N kN => ?_
  simp only [ends, lim, ends, startT, eVar, eC, eOp, tOf, eChain, tAndM, tOrM, tNotM, eAndV, eOrV, eNotV, eIf, aNil, aCons, eTup, eLst, eFrz, frzK, oI, oIC, oSub, oMod, oDiv, oPow, oLt, oLe, oGt, oGe, oAdd, oMul, eNeg, oIsN, oNotN, oIx, atK, mNo, mPart, eSl, eCB, oLen, oInt, oSumL, oMax, oMin, oList, oBls, eCall, eBM, eBM0, isLs, oApp, oPop, oExt, lsOf, tTru, sNext, sSeq, sDrop, sRet, sRetN, sIf, sBreak, sCont, sNever, gN, gNil, gCons, gTup, setT, gSub, sAsg, sPar, sAug, oIxL, sAugS, oAddI, sFor, eLc, iSeq, iRange1, iRange2, iEnum, tYes, oIsi, kdOf, oEq, oNe, eqT_int, eqT_nn, eqT_in, eqT_ni,   atI_0, atI_1, atI_2, atI_3, atI_4, atI_5, atI_6, atI_7, atI_8, atI_m1, ixN_0, ixN_1,   kdN_int, kdN_bool, kdN_str, kdN_list, kdN_tuple, isK, view_int, view_non, dep_int, dep_non, cN, cN2, wipeT,   mk_true, mk_false, put_same, put_put,   List.map_cons, List.map_nil, List.length_cons, List.length_nil, List.replicate, List.cons_append, List.nil_append, List.append_nil, List.set_cons_zero, List.set_cons_succ, List.getElem?_cons_zero, List.getElem?_cons_succ, List.getElem?_nil, Nat.reduceAdd, Nat.reduceSub, Nat.reduceLeDiff, Nat.reduceLT, Nat.reduceEqDiff, Option.isSome_some, Option.isSome_none, true_and, and_true, if_true, if_false, Bool.false_eq_true, Bool.not_true, Bool.not_false, reduceCtorEq, Nat.zero_add, Nat.zero_le, decide_eq_true_eq, Bool.not_eq_true', decide_eq_false_iff_not, ite_true, ite_false, Bool.if_false_right, Bool.if_true_left, decide_true, decide_false, Bool.true_or, Bool.or_true, Bool.false_or, Bool.or_false, Bool.true_and, Bool.and_true, Bool.false_and, Bool.and_false, List.length_map, not_true_eq_false, not_false_eq_true, false_and, and_false, bne_self_eq_false, Bool.not_eq_false]
  refine kN _ _ ?_
  clear kN N
  refine seq_gen fun N kN => ?_
  simp only [C_order_of, lim, ends, startT, eVar, eC, eOp, tOf, eChain, tAndM, tOrM, tNotM, eAndV, eOrV, eNotV, eIf, aNil, aCons, eTup, eLst, eFrz, frzK, oI, oIC, oSub, oMod, oDiv, oPow, oLt, oLe, oGt, oGe, oAdd, oMul, eNeg, oIsN, oNotN, oIx, atK, mNo, mPart, eSl, eCB, oLen, oInt, oSumL, oMax, oMin, oList, oBls, eCall, eBM, eBM0, isLs, oApp, oPop, oExt, lsOf, tTru, sNext, sSeq, sDrop, sRet, sRetN, sIf, sBreak, sCont, sNever, gN, gNil, gCons, gTup, setT, gSub, sAsg, sPar, sAug, oIxL, sAugS, oAddI, sFor, eLc, iSeq, iRange1, iRange2, iEnum, tYes, oIsi, kdOf, oEq, oNe, eqT_int, eqT_nn, eqT_in, eqT_ni,   atI_0, atI_1, atI_2, atI_3, atI_4, atI_5, atI_6, atI_7, atI_8, atI_m1, ixN_0, ixN_1,   kdN_int, kdN_bool, kdN_str, kdN_list, kdN_tuple, isK, view_int, view_non, dep_int, dep_non, cN, cN2, wipeT,   mk_true, mk_false, put_same, put_put,   List.map_cons, List.map_nil, List.length_cons, List.length_nil, List.replicate, List.cons_append, List.nil_append, List.append_nil, List.set_cons_zero, List.set_cons_succ, List.getElem?_cons_zero, List.getElem?_cons_succ, List.getElem?_nil, Nat.reduceAdd, Nat.reduceSub, Nat.reduceLeDiff, Nat.reduceLT, Nat.reduceEqDiff, Option.isSome_some, Option.isSome_none, true_and, and_true, if_true, if_false, Bool.false_eq_true, Bool.not_true, Bool.not_false, reduceCtorEq, Nat.zero_add, Nat.zero_le, decide_eq_true_eq, Bool.not_eq_true', decide_eq_false_iff_not, ite_true, ite_false, Bool.if_false_right, Bool.if_true_left, decide_true, decide_false, Bool.true_or, Bool.or_true, Bool.false_or, Bool.or_false, Bool.true_and, Bool.and_true, Bool.false_and, Bool.and_false, List.length_map, not_true_eq_false, not_false_eq_true, false_and, and_false, bne_self_eq_false, Bool.not_eq_false]
  refine .inl ⟨cs, rfl, l1, l8, hc, fun q2 nq2 => ?_⟩
  simp only [del_put nq2, lim, ends, startT, eVar, eC, eOp, tOf, eChain, tAndM, tOrM, tNotM, eAndV, eOrV, eNotV, eIf, aNil, aCons, eTup, eLst, eFrz, frzK, oI, oIC, oSub, oMod, oDiv, oPow, oLt, oLe, oGt, oGe, oAdd, oMul, eNeg, oIsN, oNotN, oIx, atK, mNo, mPart, eSl, eCB, oLen, oInt, oSumL, oMax, oMin, oList, oBls, eCall, eBM, eBM0, isLs, oApp, oPop, oExt, lsOf, tTru, sNext, sSeq, sDrop, sRet, sRetN, sIf, sBreak, sCont, sNever, gN, gNil, gCons, gTup, setT, gSub, sAsg, sPar, sAug, oIxL, sAugS, oAddI, sFor, eLc, iSeq, iRange1, iRange2, iEnum, tYes, oIsi, kdOf, oEq, oNe, eqT_int, eqT_nn, eqT_in, eqT_ni,   atI_0, atI_1, atI_2, atI_3, atI_4, atI_5, atI_6, atI_7, atI_8, atI_m1, ixN_0, ixN_1,   kdN_int, kdN_bool, kdN_str, kdN_list, kdN_tuple, isK, view_int, view_non, dep_int, dep_non, cN, cN2, wipeT,   mk_true, mk_false, put_same, put_put,   List.map_cons, List.map_nil, List.length_cons, List.length_nil, List.replicate, List.cons_append, List.nil_append, List.append_nil, List.set_cons_zero, List.set_cons_succ, List.getElem?_cons_zero, List.getElem?_cons_succ, List.getElem?_nil, Nat.reduceAdd, Nat.reduceSub, Nat.reduceLeDiff, Nat.reduceLT, Nat.reduceEqDiff, Option.isSome_some, Option.isSome_none, true_and, and_true, if_true, if_false, Bool.false_eq_true, Bool.not_true, Bool.not_false, reduceCtorEq, Nat.zero_add, Nat.zero_le, decide_eq_true_eq, Bool.not_eq_true', decide_eq_false_iff_not, ite_true, ite_false, Bool.if_false_right, Bool.if_true_left, decide_true, decide_false, Bool.true_or, Bool.or_true, Bool.false_or, Bool.or_false, Bool.true_and, Bool.and_true, Bool.false_and, Bool.and_false, List.length_map, not_true_eq_false, not_false_eq_true, false_and, and_false, bne_self_eq_false, Bool.not_eq_false]
  refine kN _ _ ?_
  clear kN N
  have d1 : depth? (view (put h' p .pool) (.lst (cs.map T.int))) = true := dep (n := 2) (cln_dat 2 _ (ci_cln 0 cs))
  have d2 : eqT (view (put h' p .pool) (.lst (cs.map T.int))) (view (put h' p .pool) (.lst (cs.map T.int))) = true := eqT_refl (ci_cln 0 cs)
  refine seq_gen fun N kN => ?_
  simp only [d1, d2, lim, ends, startT, eVar, eC, eOp, tOf, eChain, tAndM, tOrM, tNotM, eAndV, eOrV, eNotV, eIf, aNil, aCons, eTup, eLst, eFrz, frzK, oI, oIC, oSub, oMod, oDiv, oPow, oLt, oLe, oGt, oGe, oAdd, oMul, eNeg, oIsN, oNotN, oIx, atK, mNo, mPart, eSl, eCB, oLen, oInt, oSumL, oMax, oMin, oList, oBls, eCall, eBM, eBM0, isLs, oApp, oPop, oExt, lsOf, tTru, sNext, sSeq, sDrop, sRet, sRetN, sIf, sBreak, sCont, sNever, gN, gNil, gCons, gTup, setT, gSub, sAsg, sPar, sAug, oIxL, sAugS, oAddI, sFor, eLc, iSeq, iRange1, iRange2, iEnum, tYes, oIsi, kdOf, oEq, oNe, eqT_int, eqT_nn, eqT_in, eqT_ni,   atI_0, atI_1, atI_2, atI_3, atI_4, atI_5, atI_6, atI_7, atI_8, atI_m1, ixN_0, ixN_1,   kdN_int, kdN_bool, kdN_str, kdN_list, kdN_tuple, isK, view_int, view_non, dep_int, dep_non, cN, cN2, wipeT,   mk_true, mk_false, put_same, put_put,   List.map_cons, List.map_nil, List.length_cons, List.length_nil, List.replicate, List.cons_append, List.nil_append, List.append_nil, List.set_cons_zero, List.set_cons_succ, List.getElem?_cons_zero, List.getElem?_cons_succ, List.getElem?_nil, Nat.reduceAdd, Nat.reduceSub, Nat.reduceLeDiff, Nat.reduceLT, Nat.reduceEqDiff, Option.isSome_some, Option.isSome_none, true_and, and_true, if_true, if_false, Bool.false_eq_true, Bool.not_true, Bool.not_false, reduceCtorEq, Nat.zero_add, Nat.zero_le, decide_eq_true_eq, Bool.not_eq_true', decide_eq_false_iff_not, ite_true, ite_false, Bool.if_false_right, Bool.if_true_left, decide_true, decide_false, Bool.true_or, Bool.or_true, Bool.false_or, Bool.or_false, Bool.true_and, Bool.and_true, Bool.false_and, Bool.and_false, List.length_map, not_true_eq_false, not_false_eq_true, false_and, and_false, bne_self_eq_false, Bool.not_eq_false]
  refine ints_map trivial (by omega) (fun c => ⟨_, rfl, rfl⟩) ?_
  have hcl : (cs.length : Int) ≤ 1000000 := by omega
  have hcl0 : (-1000000 : Int) ≤ cs.length := by omega
  simp only [intsIn, Option.bind_some, intsOf_map, hol, lim, ends, startT, eVar, eC, eOp, tOf, eChain, tAndM, tOrM, tNotM, eAndV, eOrV, eNotV, eIf, aNil, aCons, eTup, eLst, eFrz, frzK, oI, oIC, oSub, oMod, oDiv, oPow, oLt, oLe, oGt, oGe, oAdd, oMul, eNeg, oIsN, oNotN, oIx, atK, mNo, mPart, eSl, eCB, oLen, oInt, oSumL, oMax, oMin, oList, oBls, eCall, eBM, eBM0, isLs, oApp, oPop, oExt, lsOf, tTru, sNext, sSeq, sDrop, sRet, sRetN, sIf, sBreak, sCont, sNever, gN, gNil, gCons, gTup, setT, gSub, sAsg, sPar, sAug, oIxL, sAugS, oAddI, sFor, eLc, iSeq, iRange1, iRange2, iEnum, tYes, oIsi, kdOf, oEq, oNe, eqT_int, eqT_nn, eqT_in, eqT_ni,   atI_0, atI_1, atI_2, atI_3, atI_4, atI_5, atI_6, atI_7, atI_8, atI_m1, ixN_0, ixN_1,   kdN_int, kdN_bool, kdN_str, kdN_list, kdN_tuple, isK, view_int, view_non, dep_int, dep_non, cN, cN2, wipeT,   mk_true, mk_false, put_same, put_put,   List.map_cons, List.map_nil, List.length_cons, List.length_nil, List.replicate, List.cons_append, List.nil_append, List.append_nil, List.set_cons_zero, List.set_cons_succ, List.getElem?_cons_zero, List.getElem?_cons_succ, List.getElem?_nil, Nat.reduceAdd, Nat.reduceSub, Nat.reduceLeDiff, Nat.reduceLT, Nat.reduceEqDiff, Option.isSome_some, Option.isSome_none, true_and, and_true, if_true, if_false, Bool.false_eq_true, Bool.not_true, Bool.not_false, reduceCtorEq, Nat.zero_add, Nat.zero_le, decide_eq_true_eq, Bool.not_eq_true', decide_eq_false_iff_not, ite_true, ite_false, Bool.if_false_right, Bool.if_true_left, decide_true, decide_false, Bool.true_or, Bool.or_true, Bool.false_or, Bool.or_false, Bool.true_and, Bool.and_true, Bool.false_and, Bool.and_false, List.length_map, not_true_eq_false, not_false_eq_true, false_and, and_false, bne_self_eq_false, Bool.not_eq_false]
  refine kN _ _ ?_
  clear kN N
  refine seq_gen fun N kN => ?_
  simp only [hcl, hcl0, Int.toNat_natCast, lim, ends, startT, eVar, eC, eOp, tOf, eChain, tAndM, tOrM, tNotM, eAndV, eOrV, eNotV, eIf, aNil, aCons, eTup, eLst, eFrz, frzK, oI, oIC, oSub, oMod, oDiv, oPow, oLt, oLe, oGt, oGe, oAdd, oMul, eNeg, oIsN, oNotN, oIx, atK, mNo, mPart, eSl, eCB, oLen, oInt, oSumL, oMax, oMin, oList, oBls, eCall, eBM, eBM0, isLs, oApp, oPop, oExt, lsOf, tTru, sNext, sSeq, sDrop, sRet, sRetN, sIf, sBreak, sCont, sNever, gN, gNil, gCons, gTup, setT, gSub, sAsg, sPar, sAug, oIxL, sAugS, oAddI, sFor, eLc, iSeq, iRange1, iRange2, iEnum, tYes, oIsi, kdOf, oEq, oNe, eqT_int, eqT_nn, eqT_in, eqT_ni,   atI_0, atI_1, atI_2, atI_3, atI_4, atI_5, atI_6, atI_7, atI_8, atI_m1, ixN_0, ixN_1,   kdN_int, kdN_bool, kdN_str, kdN_list, kdN_tuple, isK, view_int, view_non, dep_int, dep_non, cN, cN2, wipeT,   mk_true, mk_false, put_same, put_put,   List.map_cons, List.map_nil, List.length_cons, List.length_nil, List.replicate, List.cons_append, List.nil_append, List.append_nil, List.set_cons_zero, List.set_cons_succ, List.getElem?_cons_zero, List.getElem?_cons_succ, List.getElem?_nil, Nat.reduceAdd, Nat.reduceSub, Nat.reduceLeDiff, Nat.reduceLT, Nat.reduceEqDiff, Option.isSome_some, Option.isSome_none, true_and, and_true, if_true, if_false, Bool.false_eq_true, Bool.not_true, Bool.not_false, reduceCtorEq, Nat.zero_add, Nat.zero_le, decide_eq_true_eq, Bool.not_eq_true', decide_eq_false_iff_not, ite_true, ite_false, Bool.if_false_right, Bool.if_true_left, decide_true, decide_false, Bool.true_or, Bool.or_true, Bool.false_or, Bool.or_false, Bool.true_and, Bool.and_true, Bool.false_and, Bool.and_false, List.length_map, not_true_eq_false, not_false_eq_true, false_and, and_false, bne_self_eq_false, Bool.not_eq_false]
  rw [show rng 0 cs.length = (List.range cs.length).map fun (i : Nat) => T.int (0 + i) from rfl]
  refine lcK_mA (fun j => T.int (cs.getD j 0)) trivial (by rw [List.length_range]; omega) (fun j hj R r => ?_) ?_
  · simp only [ends, lim, ends, startT, eVar, eC, eOp, tOf, eChain, tAndM, tOrM, tNotM, eAndV, eOrV, eNotV, eIf, aNil, aCons, eTup, eLst, eFrz, frzK, oI, oIC, oSub, oMod, oDiv, oPow, oLt, oLe, oGt, oGe, oAdd, oMul, eNeg, oIsN, oNotN, oIx, atK, mNo, mPart, eSl, eCB, oLen, oInt, oSumL, oMax, oMin, oList, oBls, eCall, eBM, eBM0, isLs, oApp, oPop, oExt, lsOf, tTru, sNext, sSeq, sDrop, sRet, sRetN, sIf, sBreak, sCont, sNever, gN, gNil, gCons, gTup, setT, gSub, sAsg, sPar, sAug, oIxL, sAugS, oAddI, sFor, eLc, iSeq, iRange1, iRange2, iEnum, tYes, oIsi, kdOf, oEq, oNe, eqT_int, eqT_nn, eqT_in, eqT_ni,   atI_0, atI_1, atI_2, atI_3, atI_4, atI_5, atI_6, atI_7, atI_8, atI_m1, ixN_0, ixN_1,   kdN_int, kdN_bool, kdN_str, kdN_list, kdN_tuple, isK, view_int, view_non, dep_int, dep_non, cN, cN2, wipeT,   mk_true, mk_false, put_same, put_put,   List.map_cons, List.map_nil, List.length_cons, List.length_nil, List.replicate, List.cons_append, List.nil_append, List.append_nil, List.set_cons_zero, List.set_cons_succ, List.getElem?_cons_zero, List.getElem?_cons_succ, List.getElem?_nil, Nat.reduceAdd, Nat.reduceSub, Nat.reduceLeDiff, Nat.reduceLT, Nat.reduceEqDiff, Option.isSome_some, Option.isSome_none, true_and, and_true, if_true, if_false, Bool.false_eq_true, Bool.not_true, Bool.not_false, reduceCtorEq, Nat.zero_add, Nat.zero_le, decide_eq_true_eq, Bool.not_eq_true', decide_eq_false_iff_not, ite_true, ite_false, Bool.if_false_right, Bool.if_true_left, decide_true, decide_false, Bool.true_or, Bool.or_true, Bool.false_or, Bool.or_false, Bool.true_and, Bool.and_true, Bool.false_and, Bool.and_false, List.length_map, not_true_eq_false, not_false_eq_true, false_and, and_false, bne_self_eq_false, Bool.not_eq_false]
    refine lcK_fA (fun x => if (x == j) = true then some (nI x) else none) trivial (by omega) (fun x hx R2 r2 => ?_) ?_
    · simp only [nI, Int.zero_add, lim, ends, startT, eVar, eC, eOp, tOf, eChain, tAndM, tOrM, tNotM, eAndV, eOrV, eNotV, eIf, aNil, aCons, eTup, eLst, eFrz, frzK, oI, oIC, oSub, oMod, oDiv, oPow, oLt, oLe, oGt, oGe, oAdd, oMul, eNeg, oIsN, oNotN, oIx, atK, mNo, mPart, eSl, eCB, oLen, oInt, oSumL, oMax, oMin, oList, oBls, eCall, eBM, eBM0, isLs, oApp, oPop, oExt, lsOf, tTru, sNext, sSeq, sDrop, sRet, sRetN, sIf, sBreak, sCont, sNever, gN, gNil, gCons, gTup, setT, gSub, sAsg, sPar, sAug, oIxL, sAugS, oAddI, sFor, eLc, iSeq, iRange1, iRange2, iEnum, tYes, oIsi, kdOf, oEq, oNe, eqT_int, eqT_nn, eqT_in, eqT_ni,   atI_0, atI_1, atI_2, atI_3, atI_4, atI_5, atI_6, atI_7, atI_8, atI_m1, ixN_0, ixN_1,   kdN_int, kdN_bool, kdN_str, kdN_list, kdN_tuple, isK, view_int, view_non, dep_int, dep_non, cN, cN2, wipeT,   mk_true, mk_false, put_same, put_put,   List.map_cons, List.map_nil, List.length_cons, List.length_nil, List.replicate, List.cons_append, List.nil_append, List.append_nil, List.set_cons_zero, List.set_cons_succ, List.getElem?_cons_zero, List.getElem?_cons_succ, List.getElem?_nil, Nat.reduceAdd, Nat.reduceSub, Nat.reduceLeDiff, Nat.reduceLT, Nat.reduceEqDiff, Option.isSome_some, Option.isSome_none, true_and, and_true, if_true, if_false, Bool.false_eq_true, Bool.not_true, Bool.not_false, reduceCtorEq, Nat.zero_add, Nat.zero_le, decide_eq_true_eq, Bool.not_eq_true', decide_eq_false_iff_not, ite_true, ite_false, Bool.if_false_right, Bool.if_true_left, decide_true, decide_false, Bool.true_or, Bool.or_true, Bool.false_or, Bool.or_false, Bool.true_and, Bool.and_true, Bool.false_and, Bool.and_false, List.length_map, not_true_eq_false, not_false_eq_true, false_and, and_false, bne_self_eq_false, Bool.not_eq_false]
      by_cases c : x = j
      · subst c
        simp at r2 ⊢
        exact r2
      · have c' : ¬ ((x : Int) = (j : Int)) := by omega
        simp [c] at r2
        simp [c']
        exact r2
    · rw [mk_true]
      simp only [ord_count hp, lim, ends, startT, eVar, eC, eOp, tOf, eChain, tAndM, tOrM, tNotM, eAndV, eOrV, eNotV, eIf, aNil, aCons, eTup, eLst, eFrz, frzK, oI, oIC, oSub, oMod, oDiv, oPow, oLt, oLe, oGt, oGe, oAdd, oMul, eNeg, oIsN, oNotN, oIx, atK, mNo, mPart, eSl, eCB, oLen, oInt, oSumL, oMax, oMin, oList, oBls, eCall, eBM, eBM0, isLs, oApp, oPop, oExt, lsOf, tTru, sNext, sSeq, sDrop, sRet, sRetN, sIf, sBreak, sCont, sNever, gN, gNil, gCons, gTup, setT, gSub, sAsg, sPar, sAug, oIxL, sAugS, oAddI, sFor, eLc, iSeq, iRange1, iRange2, iEnum, tYes, oIsi, kdOf, oEq, oNe, eqT_int, eqT_nn, eqT_in, eqT_ni,   atI_0, atI_1, atI_2, atI_3, atI_4, atI_5, atI_6, atI_7, atI_8, atI_m1, ixN_0, ixN_1,   kdN_int, kdN_bool, kdN_str, kdN_list, kdN_tuple, isK, view_int, view_non, dep_int, dep_non, cN, cN2, wipeT,   mk_true, mk_false, put_same, put_put,   List.map_cons, List.map_nil, List.length_cons, List.length_nil, List.replicate, List.cons_append, List.nil_append, List.append_nil, List.set_cons_zero, List.set_cons_succ, List.getElem?_cons_zero, List.getElem?_cons_succ, List.getElem?_nil, Nat.reduceAdd, Nat.reduceSub, Nat.reduceLeDiff, Nat.reduceLT, Nat.reduceEqDiff, Option.isSome_some, Option.isSome_none, true_and, and_true, if_true, if_false, Bool.false_eq_true, Bool.not_true, Bool.not_false, reduceCtorEq, Nat.zero_add, Nat.zero_le, decide_eq_true_eq, Bool.not_eq_true', decide_eq_false_iff_not, ite_true, ite_false, Bool.if_false_right, Bool.if_true_left, decide_true, decide_false, Bool.true_or, Bool.or_true, Bool.false_or, Bool.or_false, Bool.true_and, Bool.and_true, Bool.false_and, Bool.and_false, List.length_map, not_true_eq_false, not_false_eq_true, false_and, and_false, bne_self_eq_false, Bool.not_eq_false]
      exact r
  rw [range_get, mk_true]
  simp only [d1, d2, lim, ends, startT, eVar, eC, eOp, tOf, eChain, tAndM, tOrM, tNotM, eAndV, eOrV, eNotV, eIf, aNil, aCons, eTup, eLst, eFrz, frzK, oI, oIC, oSub, oMod, oDiv, oPow, oLt, oLe, oGt, oGe, oAdd, oMul, eNeg, oIsN, oNotN, oIx, atK, mNo, mPart, eSl, eCB, oLen, oInt, oSumL, oMax, oMin, oList, oBls, eCall, eBM, eBM0, isLs, oApp, oPop, oExt, lsOf, tTru, sNext, sSeq, sDrop, sRet, sRetN, sIf, sBreak, sCont, sNever, gN, gNil, gCons, gTup, setT, gSub, sAsg, sPar, sAug, oIxL, sAugS, oAddI, sFor, eLc, iSeq, iRange1, iRange2, iEnum, tYes, oIsi, kdOf, oEq, oNe, eqT_int, eqT_nn, eqT_in, eqT_ni,   atI_0, atI_1, atI_2, atI_3, atI_4, atI_5, atI_6, atI_7, atI_8, atI_m1, ixN_0, ixN_1,   kdN_int, kdN_bool, kdN_str, kdN_list, kdN_tuple, isK, view_int, view_non, dep_int, dep_non, cN, cN2, wipeT,   mk_true, mk_false, put_same, put_put,   List.map_cons, List.map_nil, List.length_cons, List.length_nil, List.replicate, List.cons_append, List.nil_append, List.append_nil, List.set_cons_zero, List.set_cons_succ, List.getElem?_cons_zero, List.getElem?_cons_succ, List.getElem?_nil, Nat.reduceAdd, Nat.reduceSub, Nat.reduceLeDiff, Nat.reduceLT, Nat.reduceEqDiff, Option.isSome_some, Option.isSome_none, true_and, and_true, if_true, if_false, Bool.false_eq_true, Bool.not_true, Bool.not_false, reduceCtorEq, Nat.zero_add, Nat.zero_le, decide_eq_true_eq, Bool.not_eq_true', decide_eq_false_iff_not, ite_true, ite_false, Bool.if_false_right, Bool.if_true_left, decide_true, decide_false, Bool.true_or, Bool.or_true, Bool.false_or, Bool.or_false, Bool.true_and, Bool.and_true, Bool.false_and, Bool.and_false, List.length_map, not_true_eq_false, not_false_eq_true, false_and, and_false, bne_self_eq_false, Bool.not_eq_false]
  refine kN _ _ ?_
  clear kN N
  refine seq_gen fun N kN => ?_
  simp only [ends, lim, ends, startT, eVar, eC, eOp, tOf, eChain, tAndM, tOrM, tNotM, eAndV, eOrV, eNotV, eIf, aNil, aCons, eTup, eLst, eFrz, frzK, oI, oIC, oSub, oMod, oDiv, oPow, oLt, oLe, oGt, oGe, oAdd, oMul, eNeg, oIsN, oNotN, oIx, atK, mNo, mPart, eSl, eCB, oLen, oInt, oSumL, oMax, oMin, oList, oBls, eCall, eBM, eBM0, isLs, oApp, oPop, oExt, lsOf, tTru, sNext, sSeq, sDrop, sRet, sRetN, sIf, sBreak, sCont, sNever, gN, gNil, gCons, gTup, setT, gSub, sAsg, sPar, sAug, oIxL, sAugS, oAddI, sFor, eLc, iSeq, iRange1, iRange2, iEnum, tYes, oIsi, kdOf, oEq, oNe, eqT_int, eqT_nn, eqT_in, eqT_ni,   atI_0, atI_1, atI_2, atI_3, atI_4, atI_5, atI_6, atI_7, atI_8, atI_m1, ixN_0, ixN_1,   kdN_int, kdN_bool, kdN_str, kdN_list, kdN_tuple, isK, view_int, view_non, dep_int, dep_non, cN, cN2, wipeT,   mk_true, mk_false, put_same, put_put,   List.map_cons, List.map_nil, List.length_cons, List.length_nil, List.replicate, List.cons_append, List.nil_append, List.append_nil, List.set_cons_zero, List.set_cons_succ, List.getElem?_cons_zero, List.getElem?_cons_succ, List.getElem?_nil, Nat.reduceAdd, Nat.reduceSub, Nat.reduceLeDiff, Nat.reduceLT, Nat.reduceEqDiff, Option.isSome_some, Option.isSome_none, true_and, and_true, if_true, if_false, Bool.false_eq_true, Bool.not_true, Bool.not_false, reduceCtorEq, Nat.zero_add, Nat.zero_le, decide_eq_true_eq, Bool.not_eq_true', decide_eq_false_iff_not, ite_true, ite_false, Bool.if_false_right, Bool.if_true_left, decide_true, decide_false, Bool.true_or, Bool.or_true, Bool.false_or, Bool.or_false, Bool.true_and, Bool.and_true, Bool.false_and, Bool.and_false, List.length_map, not_true_eq_false, not_false_eq_true, false_and, and_false, bne_self_eq_false, Bool.not_eq_false]
  refine ints_map trivial (by omega) (fun c => ⟨_, rfl, rfl⟩) ?_
  simp only [intsIn, Option.bind_some, intsOf_map, lim, ends, startT, eVar, eC, eOp, tOf, eChain, tAndM, tOrM, tNotM, eAndV, eOrV, eNotV, eIf, aNil, aCons, eTup, eLst, eFrz, frzK, oI, oIC, oSub, oMod, oDiv, oPow, oLt, oLe, oGt, oGe, oAdd, oMul, eNeg, oIsN, oNotN, oIx, atK, mNo, mPart, eSl, eCB, oLen, oInt, oSumL, oMax, oMin, oList, oBls, eCall, eBM, eBM0, isLs, oApp, oPop, oExt, lsOf, tTru, sNext, sSeq, sDrop, sRet, sRetN, sIf, sBreak, sCont, sNever, gN, gNil, gCons, gTup, setT, gSub, sAsg, sPar, sAug, oIxL, sAugS, oAddI, sFor, eLc, iSeq, iRange1, iRange2, iEnum, tYes, oIsi, kdOf, oEq, oNe, eqT_int, eqT_nn, eqT_in, eqT_ni,   atI_0, atI_1, atI_2, atI_3, atI_4, atI_5, atI_6, atI_7, atI_8, atI_m1, ixN_0, ixN_1,   kdN_int, kdN_bool, kdN_str, kdN_list, kdN_tuple, isK, view_int, view_non, dep_int, dep_non, cN, cN2, wipeT,   mk_true, mk_false, put_same, put_put,   List.map_cons, List.map_nil, List.length_cons, List.length_nil, List.replicate, List.cons_append, List.nil_append, List.append_nil, List.set_cons_zero, List.set_cons_succ, List.getElem?_cons_zero, List.getElem?_cons_succ, List.getElem?_nil, Nat.reduceAdd, Nat.reduceSub, Nat.reduceLeDiff, Nat.reduceLT, Nat.reduceEqDiff, Option.isSome_some, Option.isSome_none, true_and, and_true, if_true, if_false, Bool.false_eq_true, Bool.not_true, Bool.not_false, reduceCtorEq, Nat.zero_add, Nat.zero_le, decide_eq_true_eq, Bool.not_eq_true', decide_eq_false_iff_not, ite_true, ite_false, Bool.if_false_right, Bool.if_true_left, decide_true, decide_false, Bool.true_or, Bool.or_true, Bool.false_or, Bool.or_false, Bool.true_and, Bool.and_true, Bool.false_and, Bool.and_false, List.length_map, not_true_eq_false, not_false_eq_true, false_and, and_false, bne_self_eq_false, Bool.not_eq_false]
  refine ⟨l1, fun mx hm1 hm2 => kN _ _ ?_⟩
  clear kN N
  have hmx0 := (hc mx hm1).1
  have hmx1 := (hc mx hm1).2
  obtain ⟨jm, ejm⟩ := List.getElem?_of_mem hm1
  have egm : cs.getD jm 0 = mx := getD_of ejm
  have og := GM.order_groups hp (m := jm) (fun i => by rw [egm]; exact getD_le hmx0 hm2 i)
  rw [egm] at og
  refine seq_gen fun N kN => ?_
  simp only [hol, lim, ends, startT, eVar, eC, eOp, tOf, eChain, tAndM, tOrM, tNotM, eAndV, eOrV, eNotV, eIf, aNil, aCons, eTup, eLst, eFrz, frzK, oI, oIC, oSub, oMod, oDiv, oPow, oLt, oLe, oGt, oGe, oAdd, oMul, eNeg, oIsN, oNotN, oIx, atK, mNo, mPart, eSl, eCB, oLen, oInt, oSumL, oMax, oMin, oList, oBls, eCall, eBM, eBM0, isLs, oApp, oPop, oExt, lsOf, tTru, sNext, sSeq, sDrop, sRet, sRetN, sIf, sBreak, sCont, sNever, gN, gNil, gCons, gTup, setT, gSub, sAsg, sPar, sAug, oIxL, sAugS, oAddI, sFor, eLc, iSeq, iRange1, iRange2, iEnum, tYes, oIsi, kdOf, oEq, oNe, eqT_int, eqT_nn, eqT_in, eqT_ni,   atI_0, atI_1, atI_2, atI_3, atI_4, atI_5, atI_6, atI_7, atI_8, atI_m1, ixN_0, ixN_1,   kdN_int, kdN_bool, kdN_str, kdN_list, kdN_tuple, isK, view_int, view_non, dep_int, dep_non, cN, cN2, wipeT,   mk_true, mk_false, put_same, put_put,   List.map_cons, List.map_nil, List.length_cons, List.length_nil, List.replicate, List.cons_append, List.nil_append, List.append_nil, List.set_cons_zero, List.set_cons_succ, List.getElem?_cons_zero, List.getElem?_cons_succ, List.getElem?_nil, Nat.reduceAdd, Nat.reduceSub, Nat.reduceLeDiff, Nat.reduceLT, Nat.reduceEqDiff, Option.isSome_some, Option.isSome_none, true_and, and_true, if_true, if_false, Bool.false_eq_true, Bool.not_true, Bool.not_false, reduceCtorEq, Nat.zero_add, Nat.zero_le, decide_eq_true_eq, Bool.not_eq_true', decide_eq_false_iff_not, ite_true, ite_false, Bool.if_false_right, Bool.if_true_left, decide_true, decide_false, Bool.true_or, Bool.or_true, Bool.false_or, Bool.or_false, Bool.true_and, Bool.and_true, Bool.false_and, Bool.and_false, List.length_map, not_true_eq_false, not_false_eq_true, false_and, and_false, bne_self_eq_false, Bool.not_eq_false]
  refine kN _ _ ?_
  clear kN N
  refine seq_gen fun N kN => ?_
  simp only [C_law_groups, lim, ends, startT, eVar, eC, eOp, tOf, eChain, tAndM, tOrM, tNotM, eAndV, eOrV, eNotV, eIf, aNil, aCons, eTup, eLst, eFrz, frzK, oI, oIC, oSub, oMod, oDiv, oPow, oLt, oLe, oGt, oGe, oAdd, oMul, eNeg, oIsN, oNotN, oIx, atK, mNo, mPart, eSl, eCB, oLen, oInt, oSumL, oMax, oMin, oList, oBls, eCall, eBM, eBM0, isLs, oApp, oPop, oExt, lsOf, tTru, sNext, sSeq, sDrop, sRet, sRetN, sIf, sBreak, sCont, sNever, gN, gNil, gCons, gTup, setT, gSub, sAsg, sPar, sAug, oIxL, sAugS, oAddI, sFor, eLc, iSeq, iRange1, iRange2, iEnum, tYes, oIsi, kdOf, oEq, oNe, eqT_int, eqT_nn, eqT_in, eqT_ni,   atI_0, atI_1, atI_2, atI_3, atI_4, atI_5, atI_6, atI_7, atI_8, atI_m1, ixN_0, ixN_1,   kdN_int, kdN_bool, kdN_str, kdN_list, kdN_tuple, isK, view_int, view_non, dep_int, dep_non, cN, cN2, wipeT,   mk_true, mk_false, put_same, put_put,   List.map_cons, List.map_nil, List.length_cons, List.length_nil, List.replicate, List.cons_append, List.nil_append, List.append_nil, List.set_cons_zero, List.set_cons_succ, List.getElem?_cons_zero, List.getElem?_cons_succ, List.getElem?_nil, Nat.reduceAdd, Nat.reduceSub, Nat.reduceLeDiff, Nat.reduceLT, Nat.reduceEqDiff, Option.isSome_some, Option.isSome_none, true_and, and_true, if_true, if_false, Bool.false_eq_true, Bool.not_true, Bool.not_false, reduceCtorEq, Nat.zero_add, Nat.zero_le, decide_eq_true_eq, Bool.not_eq_true', decide_eq_false_iff_not, ite_true, ite_false, Bool.if_false_right, Bool.if_true_left, decide_true, decide_false, Bool.true_or, Bool.or_true, Bool.false_or, Bool.or_false, Bool.true_and, Bool.and_true, Bool.false_and, Bool.and_false, List.length_map, not_true_eq_false, not_false_eq_true, false_and, and_false, bne_self_eq_false, Bool.not_eq_false]
  refine ⟨GM.order cs, rfl, by omega, ?_⟩
  rw [og]
  have hmul : MulOk 2 (cs.sum - mx) := .inl (by decide)
  have key : N [some (.scr ns), some (.int (0 + k)), some (.ref p), some (.lst (cs.map T.int)), some (.lst (cs.map T.int)), some (.lst ((GM.order cs).map nI)), x6, x7, x8, some (.int mx), some (.int (cs.sum - mx)), x11, x12] (put h' p .pool) := by
    refine kN _ _ ?_
    clear kN N
    refine seq_gen fun N kN => ?_
    simp only [CDraw, lim, ends, startT, eVar, eC, eOp, tOf, eChain, tAndM, tOrM, tNotM, eAndV, eOrV, eNotV, eIf, aNil, aCons, eTup, eLst, eFrz, frzK, oI, oIC, oSub, oMod, oDiv, oPow, oLt, oLe, oGt, oGe, oAdd, oMul, eNeg, oIsN, oNotN, oIx, atK, mNo, mPart, eSl, eCB, oLen, oInt, oSumL, oMax, oMin, oList, oBls, eCall, eBM, eBM0, isLs, oApp, oPop, oExt, lsOf, tTru, sNext, sSeq, sDrop, sRet, sRetN, sIf, sBreak, sCont, sNever, gN, gNil, gCons, gTup, setT, gSub, sAsg, sPar, sAug, oIxL, sAugS, oAddI, sFor, eLc, iSeq, iRange1, iRange2, iEnum, tYes, oIsi, kdOf, oEq, oNe, eqT_int, eqT_nn, eqT_in, eqT_ni,   atI_0, atI_1, atI_2, atI_3, atI_4, atI_5, atI_6, atI_7, atI_8, atI_m1, ixN_0, ixN_1,   kdN_int, kdN_bool, kdN_str, kdN_list, kdN_tuple, isK, view_int, view_non, dep_int, dep_non, cN, cN2, wipeT,   mk_true, mk_false, put_same, put_put,   List.map_cons, List.map_nil, List.length_cons, List.length_nil, List.replicate, List.cons_append, List.nil_append, List.append_nil, List.set_cons_zero, List.set_cons_succ, List.getElem?_cons_zero, List.getElem?_cons_succ, List.getElem?_nil, Nat.reduceAdd, Nat.reduceSub, Nat.reduceLeDiff, Nat.reduceLT, Nat.reduceEqDiff, Option.isSome_some, Option.isSome_none, true_and, and_true, if_true, if_false, Bool.false_eq_true, Bool.not_true, Bool.not_false, reduceCtorEq, Nat.zero_add, Nat.zero_le, decide_eq_true_eq, Bool.not_eq_true', decide_eq_false_iff_not, ite_true, ite_false, Bool.if_false_right, Bool.if_true_left, decide_true, decide_false, Bool.true_or, Bool.or_true, Bool.false_or, Bool.or_false, Bool.true_and, Bool.and_true, Bool.false_and, Bool.and_false, List.length_map, not_true_eq_false, not_false_eq_true, false_and, and_false, bne_self_eq_false, Bool.not_eq_false]
    refine ⟨p, cs.length, rfl, by omega, Int.lt_of_lt_of_le (show (cs.length : Int) < 9 by omega) (by decide), put_same, fun r r0 r1 => kN _ _ ?_⟩
    clear kN N
    obtain ⟨j, rfl⟩ := Int.eq_ofNat_of_zero_le r0
    have hj : j < cs.length := by omega
    refine seq_gen fun N kN => ?_
    have hlo := cut_lo (cs.map T.int) j (by rw [List.length_map]; omega)
    have hhi := cut_hi (cs.map T.int) j (by rw [List.length_map]; omega)
    have hlol : ((cs.map T.int).take j).length = j := by rw [List.length_take, List.length_map]; omega
    have hhil : ((cs.map T.int).drop (j + 1)).length = cs.length - (j + 1) := by rw [List.length_drop, List.length_map]
    simp only [hlo, hhi, CDraw, lim, ends, startT, eVar, eC, eOp, tOf, eChain, tAndM, tOrM, tNotM, eAndV, eOrV, eNotV, eIf, aNil, aCons, eTup, eLst, eFrz, frzK, oI, oIC, oSub, oMod, oDiv, oPow, oLt, oLe, oGt, oGe, oAdd, oMul, eNeg, oIsN, oNotN, oIx, atK, mNo, mPart, eSl, eCB, oLen, oInt, oSumL, oMax, oMin, oList, oBls, eCall, eBM, eBM0, isLs, oApp, oPop, oExt, lsOf, tTru, sNext, sSeq, sDrop, sRet, sRetN, sIf, sBreak, sCont, sNever, gN, gNil, gCons, gTup, setT, gSub, sAsg, sPar, sAug, oIxL, sAugS, oAddI, sFor, eLc, iSeq, iRange1, iRange2, iEnum, tYes, oIsi, kdOf, oEq, oNe, eqT_int, eqT_nn, eqT_in, eqT_ni,   atI_0, atI_1, atI_2, atI_3, atI_4, atI_5, atI_6, atI_7, atI_8, atI_m1, ixN_0, ixN_1,   kdN_int, kdN_bool, kdN_str, kdN_list, kdN_tuple, isK, view_int, view_non, dep_int, dep_non, cN, cN2, wipeT,   mk_true, mk_false, put_same, put_put,   List.map_cons, List.map_nil, List.length_cons, List.length_nil, List.replicate, List.cons_append, List.nil_append, List.append_nil, List.set_cons_zero, List.set_cons_succ, List.getElem?_cons_zero, List.getElem?_cons_succ, List.getElem?_nil, Nat.reduceAdd, Nat.reduceSub, Nat.reduceLeDiff, Nat.reduceLT, Nat.reduceEqDiff, Option.isSome_some, Option.isSome_none, true_and, and_true, if_true, if_false, Bool.false_eq_true, Bool.not_true, Bool.not_false, reduceCtorEq, Nat.zero_add, Nat.zero_le, decide_eq_true_eq, Bool.not_eq_true', decide_eq_false_iff_not, ite_true, ite_false, Bool.if_false_right, Bool.if_true_left, decide_true, decide_false, Bool.true_or, Bool.or_true, Bool.false_or, Bool.or_false, Bool.true_and, Bool.and_true, Bool.false_and, Bool.and_false, List.length_map, not_true_eq_false, not_false_eq_true, false_and, and_false, bne_self_eq_false, Bool.not_eq_false]
    refine ⟨p, 5, rfl, by decide, by decide, put_same, fun r5 r50 r51 => ?_⟩
    have c5 : ∃ (x : T) (kx : Kd), atI [.non, .bl true, .int (0 - 1), .int 1001, .str "1"] r5 = some x ∧ kdOf (put h' p .pool) x = some kx ∧ isInt x 0 1000 = false := by
      have : r5 = 0 ∨ r5 = 1 ∨ r5 = 2 ∨ r5 = 3 ∨ r5 = 4 := by omega
      rcases this with rfl | rfl | rfl | rfl | rfl
      · exact ⟨_, _, rfl, rfl, rfl⟩
      · exact ⟨_, _, rfl, rfl, rfl⟩
      · exact ⟨_, _, rfl, rfl, rfl⟩
      · exact ⟨_, _, rfl, rfl, rfl⟩
      · exact ⟨_, _, rfl, rfl, rfl⟩
    obtain ⟨x, kx, ex, hkx, hix⟩ := c5
    simp only [ex, List.length_append, hlol, hhil, lim, ends, startT, eVar, eC, eOp, tOf, eChain, tAndM, tOrM, tNotM, eAndV, eOrV, eNotV, eIf, aNil, aCons, eTup, eLst, eFrz, frzK, oI, oIC, oSub, oMod, oDiv, oPow, oLt, oLe, oGt, oGe, oAdd, oMul, eNeg, oIsN, oNotN, oIx, atK, mNo, mPart, eSl, eCB, oLen, oInt, oSumL, oMax, oMin, oList, oBls, eCall, eBM, eBM0, isLs, oApp, oPop, oExt, lsOf, tTru, sNext, sSeq, sDrop, sRet, sRetN, sIf, sBreak, sCont, sNever, gN, gNil, gCons, gTup, setT, gSub, sAsg, sPar, sAug, oIxL, sAugS, oAddI, sFor, eLc, iSeq, iRange1, iRange2, iEnum, tYes, oIsi, kdOf, oEq, oNe, eqT_int, eqT_nn, eqT_in, eqT_ni,   atI_0, atI_1, atI_2, atI_3, atI_4, atI_5, atI_6, atI_7, atI_8, atI_m1, ixN_0, ixN_1,   kdN_int, kdN_bool, kdN_str, kdN_list, kdN_tuple, isK, view_int, view_non, dep_int, dep_non, cN, cN2, wipeT,   mk_true, mk_false, put_same, put_put,   List.map_cons, List.map_nil, List.length_cons, List.length_nil, List.replicate, List.cons_append, List.nil_append, List.append_nil, List.set_cons_zero, List.set_cons_succ, List.getElem?_cons_zero, List.getElem?_cons_succ, List.getElem?_nil, Nat.reduceAdd, Nat.reduceSub, Nat.reduceLeDiff, Nat.reduceLT, Nat.reduceEqDiff, Option.isSome_some, Option.isSome_none, true_and, and_true, if_true, if_false, Bool.false_eq_true, Bool.not_true, Bool.not_false, reduceCtorEq, Nat.zero_add, Nat.zero_le, decide_eq_true_eq, Bool.not_eq_true', decide_eq_false_iff_not, ite_true, ite_false, Bool.if_false_right, Bool.if_true_left, decide_true, decide_false, Bool.true_or, Bool.or_true, Bool.false_or, Bool.or_false, Bool.true_and, Bool.and_true, Bool.false_and, Bool.and_false, List.length_map, not_true_eq_false, not_false_eq_true, false_and, and_false, bne_self_eq_false, Bool.not_eq_false]
    refine ⟨by omega, by omega, kN _ _ ?_⟩
    clear kN N
    refine seq_gen fun N kN => ?_
    simp only [C_law_refused, lim, ends, startT, eVar, eC, eOp, tOf, eChain, tAndM, tOrM, tNotM, eAndV, eOrV, eNotV, eIf, aNil, aCons, eTup, eLst, eFrz, frzK, oI, oIC, oSub, oMod, oDiv, oPow, oLt, oLe, oGt, oGe, oAdd, oMul, eNeg, oIsN, oNotN, oIx, atK, mNo, mPart, eSl, eCB, oLen, oInt, oSumL, oMax, oMin, oList, oBls, eCall, eBM, eBM0, isLs, oApp, oPop, oExt, lsOf, tTru, sNext, sSeq, sDrop, sRet, sRetN, sIf, sBreak, sCont, sNever, gN, gNil, gCons, gTup, setT, gSub, sAsg, sPar, sAug, oIxL, sAugS, oAddI, sFor, eLc, iSeq, iRange1, iRange2, iEnum, tYes, oIsi, kdOf, oEq, oNe, eqT_int, eqT_nn, eqT_in, eqT_ni,   atI_0, atI_1, atI_2, atI_3, atI_4, atI_5, atI_6, atI_7, atI_8, atI_m1, ixN_0, ixN_1,   kdN_int, kdN_bool, kdN_str, kdN_list, kdN_tuple, isK, view_int, view_non, dep_int, dep_non, cN, cN2, wipeT,   mk_true, mk_false, put_same, put_put,   List.map_cons, List.map_nil, List.length_cons, List.length_nil, List.replicate, List.cons_append, List.nil_append, List.append_nil, List.set_cons_zero, List.set_cons_succ, List.getElem?_cons_zero, List.getElem?_cons_succ, List.getElem?_nil, Nat.reduceAdd, Nat.reduceSub, Nat.reduceLeDiff, Nat.reduceLT, Nat.reduceEqDiff, Option.isSome_some, Option.isSome_none, true_and, and_true, if_true, if_false, Bool.false_eq_true, Bool.not_true, Bool.not_false, reduceCtorEq, Nat.zero_add, Nat.zero_le, decide_eq_true_eq, Bool.not_eq_true', decide_eq_false_iff_not, ite_true, ite_false, Bool.if_false_right, Bool.if_true_left, decide_true, decide_false, Bool.true_or, Bool.or_true, Bool.false_or, Bool.or_false, Bool.true_and, Bool.and_true, Bool.false_and, Bool.and_false, List.length_map, not_true_eq_false, not_false_eq_true, false_and, and_false, bne_self_eq_false, Bool.not_eq_false]
    refine .inl ⟨cs.take j, x, (cs.map T.int).drop (j + 1), kx, ?_, ?_, fun c hh => hc c (List.mem_of_mem_take hh), hkx, hix, ?_⟩
    · rw [List.map_take, List.append_assoc]; rfl
    · rw [List.length_take, hhil]; omega
    · have ej : (cs.take j).length = j := by rw [List.length_take]; omega
      rw [ej]
      have d3 : depth? (view (put h' p .pool) (.tup [.str "sizes", nI j])) = true := dep (n := 2) (cln_dat 2 _ (sz_cln _ rfl))
      have d4 : eqT (view (put h' p .pool) (.tup [.str "sizes", nI j])) (view (put h' p .pool) (.tup [.str "sizes", nI j])) = true := eqT_refl (n := 2) (sz_cln _ rfl)
      unfold nI at d3 d4
      simp only [nI, d3, d4, lim, ends, startT, eVar, eC, eOp, tOf, eChain, tAndM, tOrM, tNotM, eAndV, eOrV, eNotV, eIf, aNil, aCons, eTup, eLst, eFrz, frzK, oI, oIC, oSub, oMod, oDiv, oPow, oLt, oLe, oGt, oGe, oAdd, oMul, eNeg, oIsN, oNotN, oIx, atK, mNo, mPart, eSl, eCB, oLen, oInt, oSumL, oMax, oMin, oList, oBls, eCall, eBM, eBM0, isLs, oApp, oPop, oExt, lsOf, tTru, sNext, sSeq, sDrop, sRet, sRetN, sIf, sBreak, sCont, sNever, gN, gNil, gCons, gTup, setT, gSub, sAsg, sPar, sAug, oIxL, sAugS, oAddI, sFor, eLc, iSeq, iRange1, iRange2, iEnum, tYes, oIsi, kdOf, oEq, oNe, eqT_int, eqT_nn, eqT_in, eqT_ni,   atI_0, atI_1, atI_2, atI_3, atI_4, atI_5, atI_6, atI_7, atI_8, atI_m1, ixN_0, ixN_1,   kdN_int, kdN_bool, kdN_str, kdN_list, kdN_tuple, isK, view_int, view_non, dep_int, dep_non, cN, cN2, wipeT,   mk_true, mk_false, put_same, put_put,   List.map_cons, List.map_nil, List.length_cons, List.length_nil, List.replicate, List.cons_append, List.nil_append, List.append_nil, List.set_cons_zero, List.set_cons_succ, List.getElem?_cons_zero, List.getElem?_cons_succ, List.getElem?_nil, Nat.reduceAdd, Nat.reduceSub, Nat.reduceLeDiff, Nat.reduceLT, Nat.reduceEqDiff, Option.isSome_some, Option.isSome_none, true_and, and_true, if_true, if_false, Bool.false_eq_true, Bool.not_true, Bool.not_false, reduceCtorEq, Nat.zero_add, Nat.zero_le, decide_eq_true_eq, Bool.not_eq_true', decide_eq_false_iff_not, ite_true, ite_false, Bool.if_false_right, Bool.if_true_left, decide_true, decide_false, Bool.true_or, Bool.or_true, Bool.false_or, Bool.or_false, Bool.true_and, Bool.and_true, Bool.false_and, Bool.and_false, List.length_map, not_true_eq_false, not_false_eq_true, false_and, and_false, bne_self_eq_false, Bool.not_eq_false]
      refine kN _ _ ?_
      clear kN N
      have e9 : Int.toNat 9 = 9 := rfl
      simp only [e9, lim, ends, startT, eVar, eC, eOp, tOf, eChain, tAndM, tOrM, tNotM, eAndV, eOrV, eNotV, eIf, aNil, aCons, eTup, eLst, eFrz, frzK, oI, oIC, oSub, oMod, oDiv, oPow, oLt, oLe, oGt, oGe, oAdd, oMul, eNeg, oIsN, oNotN, oIx, atK, mNo, mPart, eSl, eCB, oLen, oInt, oSumL, oMax, oMin, oList, oBls, eCall, eBM, eBM0, isLs, oApp, oPop, oExt, lsOf, tTru, sNext, sSeq, sDrop, sRet, sRetN, sIf, sBreak, sCont, sNever, gN, gNil, gCons, gTup, setT, gSub, sAsg, sPar, sAug, oIxL, sAugS, oAddI, sFor, eLc, iSeq, iRange1, iRange2, iEnum, tYes, oIsi, kdOf, oEq, oNe, eqT_int, eqT_nn, eqT_in, eqT_ni,   atI_0, atI_1, atI_2, atI_3, atI_4, atI_5, atI_6, atI_7, atI_8, atI_m1, ixN_0, ixN_1,   kdN_int, kdN_bool, kdN_str, kdN_list, kdN_tuple, isK, view_int, view_non, dep_int, dep_non, cN, cN2, wipeT,   mk_true, mk_false, put_same, put_put,   List.map_cons, List.map_nil, List.length_cons, List.length_nil, List.replicate, List.cons_append, List.nil_append, List.append_nil, List.set_cons_zero, List.set_cons_succ, List.getElem?_cons_zero, List.getElem?_cons_succ, List.getElem?_nil, Nat.reduceAdd, Nat.reduceSub, Nat.reduceLeDiff, Nat.reduceLT, Nat.reduceEqDiff, Option.isSome_some, Option.isSome_none, true_and, and_true, if_true, if_false, Bool.false_eq_true, Bool.not_true, Bool.not_false, reduceCtorEq, Nat.zero_add, Nat.zero_le, decide_eq_true_eq, Bool.not_eq_true', decide_eq_false_iff_not, ite_true, ite_false, Bool.if_false_right, Bool.if_true_left, decide_true, decide_false, Bool.true_or, Bool.or_true, Bool.false_or, Bool.or_false, Bool.true_and, Bool.and_true, Bool.false_and, Bool.and_false, List.length_map, not_true_eq_false, not_false_eq_true, false_and, and_false, bne_self_eq_false, Bool.not_eq_false]
      refine ⟨by decide, by decide, by decide, ?_⟩
      refine forK_go (fun i s h'' => h'' = put h' p .pool ∧ ∃ x12, s = [some (.scr ns), some (.int (0 + k)), some (.ref p), some (.lst (cs.map T.int)), some (.lst (cs.map T.int)), some (.lst ((GM.order cs).map nI)), x6, x7, some (.int (j : Int)), some (.int mx), some (.int (cs.sum - mx)), some (.lst ((cs.map T.int).take j ++ [x] ++ (cs.map T.int).drop (j + 1))), x12]) ⟨rfl, _, rfl⟩ ?_ ?_
      · rintro s h'' ⟨rfl, x12, rfl⟩
        exact ⟨trivial, _, _, _, _, _, _, _, _, _, _, _, _, rfl⟩
      · rintro i t s h'' ei ⟨rfl, x12, rfl⟩
        refine ⟨trivial, ?_⟩
        simp only [C_law_refused, lim, ends, startT, eVar, eC, eOp, tOf, eChain, tAndM, tOrM, tNotM, eAndV, eOrV, eNotV, eIf, aNil, aCons, eTup, eLst, eFrz, frzK, oI, oIC, oSub, oMod, oDiv, oPow, oLt, oLe, oGt, oGe, oAdd, oMul, eNeg, oIsN, oNotN, oIx, atK, mNo, mPart, eSl, eCB, oLen, oInt, oSumL, oMax, oMin, oList, oBls, eCall, eBM, eBM0, isLs, oApp, oPop, oExt, lsOf, tTru, sNext, sSeq, sDrop, sRet, sRetN, sIf, sBreak, sCont, sNever, gN, gNil, gCons, gTup, setT, gSub, sAsg, sPar, sAug, oIxL, sAugS, oAddI, sFor, eLc, iSeq, iRange1, iRange2, iEnum, tYes, oIsi, kdOf, oEq, oNe, eqT_int, eqT_nn, eqT_in, eqT_ni,   atI_0, atI_1, atI_2, atI_3, atI_4, atI_5, atI_6, atI_7, atI_8, atI_m1, ixN_0, ixN_1,   kdN_int, kdN_bool, kdN_str, kdN_list, kdN_tuple, isK, view_int, view_non, dep_int, dep_non, cN, cN2, wipeT,   mk_true, mk_false, put_same, put_put,   List.map_cons, List.map_nil, List.length_cons, List.length_nil, List.replicate, List.cons_append, List.nil_append, List.append_nil, List.set_cons_zero, List.set_cons_succ, List.getElem?_cons_zero, List.getElem?_cons_succ, List.getElem?_nil, Nat.reduceAdd, Nat.reduceSub, Nat.reduceLeDiff, Nat.reduceLT, Nat.reduceEqDiff, Option.isSome_some, Option.isSome_none, true_and, and_true, if_true, if_false, Bool.false_eq_true, Bool.not_true, Bool.not_false, reduceCtorEq, Nat.zero_add, Nat.zero_le, decide_eq_true_eq, Bool.not_eq_true', decide_eq_false_iff_not, ite_true, ite_false, Bool.if_false_right, Bool.if_true_left, decide_true, decide_false, Bool.true_or, Bool.or_true, Bool.false_or, Bool.or_false, Bool.true_and, Bool.and_true, Bool.false_and, Bool.and_false, List.length_map, not_true_eq_false, not_false_eq_true, false_and, and_false, bne_self_eq_false, Bool.not_eq_false]
        have d5 : depth? (view (put h' p .pool) (.tup [.str "sizes", .non])) = true := dep (n := 2) (cln_dat 2 _ (sz_cln _ rfl))
        have d6 : eqT (view (put h' p .pool) (.tup [.str "sizes", .non])) (view (put h' p .pool) (.tup [.str "sizes", .non])) = true := eqT_refl (n := 2) (sz_cln _ rfl)
        refine .inr ⟨t, rfl, odd_items t (List.mem_of_getElem? ei), ?_⟩
        simp only [d5, d6, lim, ends, startT, eVar, eC, eOp, tOf, eChain, tAndM, tOrM, tNotM, eAndV, eOrV, eNotV, eIf, aNil, aCons, eTup, eLst, eFrz, frzK, oI, oIC, oSub, oMod, oDiv, oPow, oLt, oLe, oGt, oGe, oAdd, oMul, eNeg, oIsN, oNotN, oIx, atK, mNo, mPart, eSl, eCB, oLen, oInt, oSumL, oMax, oMin, oList, oBls, eCall, eBM, eBM0, isLs, oApp, oPop, oExt, lsOf, tTru, sNext, sSeq, sDrop, sRet, sRetN, sIf, sBreak, sCont, sNever, gN, gNil, gCons, gTup, setT, gSub, sAsg, sPar, sAug, oIxL, sAugS, oAddI, sFor, eLc, iSeq, iRange1, iRange2, iEnum, tYes, oIsi, kdOf, oEq, oNe, eqT_int, eqT_nn, eqT_in, eqT_ni,   atI_0, atI_1, atI_2, atI_3, atI_4, atI_5, atI_6, atI_7, atI_8, atI_m1, ixN_0, ixN_1,   kdN_int, kdN_bool, kdN_str, kdN_list, kdN_tuple, isK, view_int, view_non, dep_int, dep_non, cN, cN2, wipeT,   mk_true, mk_false, put_same, put_put,   List.map_cons, List.map_nil, List.length_cons, List.length_nil, List.replicate, List.cons_append, List.nil_append, List.append_nil, List.set_cons_zero, List.set_cons_succ, List.getElem?_cons_zero, List.getElem?_cons_succ, List.getElem?_nil, Nat.reduceAdd, Nat.reduceSub, Nat.reduceLeDiff, Nat.reduceLT, Nat.reduceEqDiff, Option.isSome_some, Option.isSome_none, true_and, and_true, if_true, if_false, Bool.false_eq_true, Bool.not_true, Bool.not_false, reduceCtorEq, Nat.zero_add, Nat.zero_le, decide_eq_true_eq, Bool.not_eq_true', decide_eq_false_iff_not, ite_true, ite_false, Bool.if_false_right, Bool.if_true_left, decide_true, decide_false, Bool.true_or, Bool.or_true, Bool.false_or, Bool.or_false, Bool.true_and, Bool.and_true, Bool.false_and, Bool.and_false, List.length_map, not_true_eq_false, not_false_eq_true, false_and, and_false, bne_self_eq_false, Bool.not_eq_false]
        exact ⟨_, rfl⟩
  by_cases cm : mx ≤ cs.sum - mx + 1
  · simp only [cm, hol, lim, ends, startT, eVar, eC, eOp, tOf, eChain, tAndM, tOrM, tNotM, eAndV, eOrV, eNotV, eIf, aNil, aCons, eTup, eLst, eFrz, frzK, oI, oIC, oSub, oMod, oDiv, oPow, oLt, oLe, oGt, oGe, oAdd, oMul, eNeg, oIsN, oNotN, oIx, atK, mNo, mPart, eSl, eCB, oLen, oInt, oSumL, oMax, oMin, oList, oBls, eCall, eBM, eBM0, isLs, oApp, oPop, oExt, lsOf, tTru, sNext, sSeq, sDrop, sRet, sRetN, sIf, sBreak, sCont, sNever, gN, gNil, gCons, gTup, setT, gSub, sAsg, sPar, sAug, oIxL, sAugS, oAddI, sFor, eLc, iSeq, iRange1, iRange2, iEnum, tYes, oIsi, kdOf, oEq, oNe, eqT_int, eqT_nn, eqT_in, eqT_ni,   atI_0, atI_1, atI_2, atI_3, atI_4, atI_5, atI_6, atI_7, atI_8, atI_m1, ixN_0, ixN_1,   kdN_int, kdN_bool, kdN_str, kdN_list, kdN_tuple, isK, view_int, view_non, dep_int, dep_non, cN, cN2, wipeT,   mk_true, mk_false, put_same, put_put,   List.map_cons, List.map_nil, List.length_cons, List.length_nil, List.replicate, List.cons_append, List.nil_append, List.append_nil, List.set_cons_zero, List.set_cons_succ, List.getElem?_cons_zero, List.getElem?_cons_succ, List.getElem?_nil, Nat.reduceAdd, Nat.reduceSub, Nat.reduceLeDiff, Nat.reduceLT, Nat.reduceEqDiff, Option.isSome_some, Option.isSome_none, true_and, and_true, if_true, if_false, Bool.false_eq_true, Bool.not_true, Bool.not_false, reduceCtorEq, Nat.zero_add, Nat.zero_le, decide_eq_true_eq, Bool.not_eq_true', decide_eq_false_iff_not, ite_true, ite_false, Bool.if_false_right, Bool.if_true_left, decide_true, decide_false, Bool.true_or, Bool.or_true, Bool.false_or, Bool.or_false, Bool.true_and, Bool.and_true, Bool.false_and, Bool.and_false, List.length_map, not_true_eq_false, not_false_eq_true, false_and, and_false, bne_self_eq_false, Bool.not_eq_false]
    exact key
  · simp only [cm, lim, ends, startT, eVar, eC, eOp, tOf, eChain, tAndM, tOrM, tNotM, eAndV, eOrV, eNotV, eIf, aNil, aCons, eTup, eLst, eFrz, frzK, oI, oIC, oSub, oMod, oDiv, oPow, oLt, oLe, oGt, oGe, oAdd, oMul, eNeg, oIsN, oNotN, oIx, atK, mNo, mPart, eSl, eCB, oLen, oInt, oSumL, oMax, oMin, oList, oBls, eCall, eBM, eBM0, isLs, oApp, oPop, oExt, lsOf, tTru, sNext, sSeq, sDrop, sRet, sRetN, sIf, sBreak, sCont, sNever, gN, gNil, gCons, gTup, setT, gSub, sAsg, sPar, sAug, oIxL, sAugS, oAddI, sFor, eLc, iSeq, iRange1, iRange2, iEnum, tYes, oIsi, kdOf, oEq, oNe, eqT_int, eqT_nn, eqT_in, eqT_ni,   atI_0, atI_1, atI_2, atI_3, atI_4, atI_5, atI_6, atI_7, atI_8, atI_m1, ixN_0, ixN_1,   kdN_int, kdN_bool, kdN_str, kdN_list, kdN_tuple, isK, view_int, view_non, dep_int, dep_non, cN, cN2, wipeT,   mk_true, mk_false, put_same, put_put,   List.map_cons, List.map_nil, List.length_cons, List.length_nil, List.replicate, List.cons_append, List.nil_append, List.append_nil, List.set_cons_zero, List.set_cons_succ, List.getElem?_cons_zero, List.getElem?_cons_succ, List.getElem?_nil, Nat.reduceAdd, Nat.reduceSub, Nat.reduceLeDiff, Nat.reduceLT, Nat.reduceEqDiff, Option.isSome_some, Option.isSome_none, true_and, and_true, if_true, if_false, Bool.false_eq_true, Bool.not_true, Bool.not_false, reduceCtorEq, Nat.zero_add, Nat.zero_le, decide_eq_true_eq, Bool.not_eq_true', decide_eq_false_iff_not, ite_true, ite_false, Bool.if_false_right, Bool.if_true_left, decide_true, decide_false, Bool.true_or, Bool.or_true, Bool.false_or, Bool.or_false, Bool.true_and, Bool.and_true, Bool.false_and, Bool.and_false, List.length_map, not_true_eq_false, not_false_eq_true, false_and, and_false, bne_self_eq_false, Bool.not_eq_false]
    exact ⟨hmul, key⟩
end
end TL

namespace TL
open PySem L2
section
variable {P : Program} {w : World} {K : PySem.W.Frag} {mg : Str → Option Value} {base : Heap} {a : Ad}
theorem sci_InvalidSizes : FnScope ["self", "number"] ["self", "number"] (defScope si_InvalidSizes) := ⟨rfl, rfl, rfl, by decide +kernel, rfl, by decide +kernel, by decide +kernel⟩
theorem okI_InvalidSizes (T : Tx K mg a) : FnOk P w K mg base (L2.CX P w) 1 a.i_InvalidSizes a.e_InvalidSizes ["self", "number"] (spInit a.c_InvalidSizes "number") := init_ok T.FI_InvalidSizes sci_InvalidSizes T.o_InvalidSizes T.n_InvalidSizes rfl (Or.inl rfl) (Or.inl rfl) (by decide) (by decide) (fun _ _ => rfl)
theorem sc_is_integer : FnScope N_is_integer ["thing", "least", "most"] (defScope s_is_integer) := ⟨rfl, rfl, rfl, by decide +kernel, rfl, by decide +kernel, by decide +kernel⟩
theorem ok_is_integer (T : Tx K mg a) : FnOk P w K mg base (L2.CX P w) 1 a.f_is_integer a.d_is_integer ["thing", "least", "most"] (liftSp K 3 C_is_integer) := by
  refine fn_ok T.F_is_integer sc_is_integer (by decide) (fun cdv A outer s H E hr => ?_) pl_is_integer
  have tk : Takes (cxOf (L2.CX P w) P w K mg base N_is_integer "is_integer" (defScope s_is_integer) a.f_is_integer cdv A outer s H E) (fun cls d _ H => E cls d H) := takes_of rfl rfl rfl rfl
  exact (jss_one (js_ret (j_and (j_cb call_isi c_isi rfl T.z_isinstance (by decide +kernel) (ja_cons (j_var 0) (ja_cons (j_ty rfl T.z_int (by decide +kernel)) ja_nil))) (j_and (j_not (j_cb call_isi c_isi rfl T.z_isinstance (by decide +kernel) (ja_cons (j_var 0) (ja_cons (j_ty rfl T.z_bool (by decide +kernel)) ja_nil)))) (j_one (j_chain op_le p_le op_le p_le (j_var 1) (j_var 0) (j_var 2)))))))
theorem sc_in_order : FnScope N_in_order ["counts"] (defScope s_in_order) := ⟨rfl, rfl, rfl, by decide +kernel, rfl, by decide +kernel, by decide +kernel⟩
theorem ok_in_order (T : Tx K mg a) : FnOk P w K mg base (L2.CX P w) 1 a.f_in_order a.d_in_order ["counts"] (liftSp K 1 C_in_order) := by
  refine fn_ok T.F_in_order sc_in_order (by decide) (fun cdv A outer s H E hr => ?_) pl_in_order
  have tk : Takes (cxOf (L2.CX P w) P w K mg base N_in_order "in_order" (defScope s_in_order) a.f_in_order cdv A outer s H E) (fun cls d _ H => E cls d H) := takes_of rfl rfl rfl rfl
  exact (jss_cons (js_setLc false (i := 1) (own := [("count", 2)]) rfl sc_in_order.nd rfl rfl (sw_true rfl rfl rfl (by decide +kernel)) (ct_name (by decide)) (ji_seq (j_var 0)) (blkOk_by (N := N_in_order) (sc := (defScope s_in_order)) (by decide +kernel)) (fun _ _ _ _ _ => (pg_name (i := 2) sc_in_order.nd rfl (by first | exact Or.inl rfl | exact Or.inr rfl))) (fun _ _ _ _ _ => jts_nil) (fun _ _ _ _ _ => (j_cty call_int1 c_int rfl T.z_int (by decide +kernel) (ja_cons (j_var 2) ja_nil))))
    (jss_cons (js_set (i := 3) sc_in_order.nd rfl (by first | exact Or.inl rfl | exact Or.inr rfl) (j_lst false ja_nil))
    (jss_cons (js_set (i := 4) sc_in_order.nd rfl (by first | exact Or.inl rfl | exact Or.inr rfl) j_non)
    (jss_cons (js_for (passes_of rfl) rfl (ji_range1 rfl T.z_range (ja_cons (j_cb (cr_sum rfl) c_sum rfl T.z_sum (by decide +kernel) (ja_cons (j_var 1) ja_nil)) ja_nil)) (jg_name (i := 5) sc_in_order.nd rfl (by first | exact Or.inl rfl | exact Or.inr rfl)) (jss_cons (js_set (i := 6) sc_in_order.nd rfl (by first | exact Or.inl rfl | exact Or.inr rfl) j_non)
    (jss_cons (js_for (passes_of rfl) rfl (ji_enum rfl T.z_enumerate (ja_cons (j_var 1) ja_nil)) (jg_tup rfl (jgs_cons (jg_name (i := 7) sc_in_order.nd rfl (by first | exact Or.inl rfl | exact Or.inr rfl)) (jgs_cons (jg_name (i := 8) sc_in_order.nd rfl (by first | exact Or.inl rfl | exact Or.inr rfl)) jgs_nil))) (jss_one (js_if (jt_w (jw_and (jt_cmp (op_neD hr.units) p_ne (j_var 7) (j_var 4) (nomark _)) (jw_and (jt_cmp op_gt p_gt (j_var 8) j_int (nomark _)) (jw_and1 (jt_w (jw_or (jt_cmp op_isN p_isN (j_var 6) j_non (nomark _)) (jw_or1 (jt_cmp op_gt p_gt (j_var 8) (j_ix (j_var 1) (j_var 6)) (nomark _))))))))) (jss_one (js_set (i := 6) sc_in_order.nd rfl (by first | exact Or.inl rfl | exact Or.inr rfl) (j_var 7))) jss_nil)))
    (jss_cons (js_if (jt_cmp op_isN p_isN (j_var 6) j_non (nomark _)) (jss_one (js_set (i := 6) sc_in_order.nd rfl (by first | exact Or.inl rfl | exact Or.inr rfl) (j_var 4))) jss_nil)
    (jss_cons (js_expr (j_bm PySem.F.plainAttrs_list PySem.F.slot_list_append PySem.F.type_list_append mt_append ty_list c_app (j_var 3) (ja_cons (j_var 6) ja_nil)))
    (jss_cons (js_augS (j_var 1) (j_var 6) j_int ip_sub p_isub)
    (jss_one (js_set (i := 4) sc_in_order.nd rfl (by first | exact Or.inl rfl | exact Or.inr rfl) (j_var 6)))))))))
    (jss_one (js_ret (j_var 3)))))))
theorem sc_law_hand : FnScope N_law_hand ["_law_script", "_law_k"] (defScope s_law_hand) := ⟨rfl, rfl, rfl, by decide +kernel, rfl, by decide +kernel, by decide +kernel⟩
theorem ok_law_hand (T : Tx K mg a) : FnOk P w K mg base (L2.CX P w) 1 a.f_law_hand a.d_law_hand ["_law_script", "_law_k"] (liftSp K 2 CHand) := by
  refine fn_wk (fn_ok T.F_law_hand sc_law_hand (by decide) (fun cdv A outer s H E hr => ?_) pl_law_hand) hand_wk
  have tk : Takes (cxOf (L2.CX P w) P w K mg base N_law_hand "_law_hand" (defScope s_law_hand) a.f_law_hand cdv A outer s H E) (fun cls d _ H => E cls d H) := takes_of rfl rfl rfl rfl
  exact (jss_cons (js_set (i := 2) sc_law_hand.nd rfl (by first | exact Or.inl rfl | exact Or.inr rfl) (j_ix (j_op o_add (p_add true) (j_sl true (j_var 0) (jo_some (j_var 1)) (jo_some (j_op o_add (p_add true) (j_var 1) j_int))) (j_lst true (ja_cons j_int ja_nil))) j_int))
    (jss_cons (js_set (i := 3) sc_law_hand.nd rfl (by first | exact Or.inl rfl | exact Or.inr rfl) (j_op op_mod p_mod (j_op o_mul (p_mul true) (j_op o_add (p_add true) (j_op o_add (p_add true) (j_op op_mod p_mod (j_cty call_int1 c_int rfl T.z_int (by decide +kernel) (ja_cons (j_var 2) ja_nil)) j_int) (j_op o_mul (p_mul true) j_int (j_var 1))) j_int) j_int) j_int))
    (jss_one (js_ret (j_lst false (ja_cons (j_op o_mul (p_mul true) (j_cty call_int1 c_int rfl T.z_int (by decide +kernel) (ja_cons (j_cmp op_ge p_ge (j_var 2) (j_op op_pow p_pow j_int j_int) (nomark _)) ja_nil)) (j_var 2)) (ja_cons (j_var 3) ja_nil)))))))
theorem sc_law_draw : FnScope N_law_draw ["_law_pool", "_law_many"] (defScope s_law_draw) := ⟨rfl, rfl, rfl, by decide +kernel, rfl, by decide +kernel, by decide +kernel⟩
theorem ok_law_draw (T : Tx K mg a) : FnOk P w K mg base (L2.CX P w) 1 a.f_law_draw a.d_law_draw ["_law_pool", "_law_many"] (liftSp K 2 CDraw) := by
  refine fn_wk (fn_ok T.F_law_draw sc_law_draw (by decide) (fun cdv A outer s H E hr => ?_) pl_law_draw) draw_wk
  have tk : Takes (cxOf (L2.CX P w) P w K mg base N_law_draw "_law_draw" (defScope s_law_draw) a.f_law_draw cdv A outer s H E) (fun cls d _ H => E cls d H) := takes_of rfl rfl rfl rfl
  exact (jss_cons (js_if (jt_cmp op_gt p_gt (j_ix (j_var 0) j_int) j_int (nomark _)) (jss_cons (js_set (i := 2) sc_law_draw.nd rfl (by first | exact Or.inl rfl | exact Or.inr rfl) (j_op op_mod p_mod (j_cty call_int1 c_int rfl T.z_int (by decide +kernel) (ja_cons (j_ix (j_var 0) j_int) ja_nil)) (j_var 1)))
    (jss_cons (js_asg (j_op op_fdivW p_div (j_ix (j_var 0) j_int) (j_var 1)) (jg_sub (j_var 0) j_int))
    (jss_one (js_ret (j_var 2))))) jss_nil)
    (jss_cons (js_asg (j_op op_mod p_mod (j_cty call_int1 c_int rfl T.z_int (by decide +kernel) (ja_cons (j_op o_add (p_add true) (j_op o_mul (p_mul true) (j_ix (j_var 0) j_int) j_int) j_int) ja_nil)) j_int) (jg_sub (j_var 0) j_int))
    (jss_one (js_ret (j_op op_mod p_mod (j_op op_fdivW p_div (j_op op_mod p_mod (j_cty call_int1 c_int rfl T.z_int (by decide +kernel) (ja_cons (j_op o_mul (p_mul true) (j_ix (j_var 0) j_int) (j_ix (j_var 0) j_int)) ja_nil)) j_int) j_int) (j_var 1))))))
theorem sc_law_groups : FnScope N_law_groups ["_law_found"] (defScope s_law_groups) := ⟨rfl, rfl, rfl, by decide +kernel, rfl, by decide +kernel, by decide +kernel⟩
theorem ok_law_groups (T : Tx K mg a) : FnOk P w K mg base (L2.CX P w) 1 a.f_law_groups a.d_law_groups ["_law_found"] (liftSp K 1 C_law_groups) := by
  refine fn_ok T.F_law_groups sc_law_groups (by decide) (fun cdv A outer s H E hr => ?_) pl_law_groups
  have tk : Takes (cxOf (L2.CX P w) P w K mg base N_law_groups "_law_groups" (defScope s_law_groups) a.f_law_groups cdv A outer s H E) (fun cls d _ H => E cls d H) := takes_of rfl rfl rfl rfl
  exact (jss_one (js_ret (j_cb call_len c_len rfl T.z_len (by decide +kernel) (ja_cons (j_lc true (own := [("_law_at", 1)]) rfl sc_law_groups.nd (ct_name (by decide)) (ji_range1 rfl T.z_range (ja_cons (j_cb call_len c_len rfl T.z_len (by decide +kernel) (ja_cons (j_var 0) ja_nil)) ja_nil)) (blkOk_by (N := N_law_groups) (sc := (defScope s_law_groups)) (by decide +kernel)) (fun _ _ _ _ _ => (pg_name (i := 1) sc_law_groups.nd rfl (by first | exact Or.inl rfl | exact Or.inr rfl))) (fun _ _ _ _ _ => (jts_one (jt_w (jw_or (jt_cmp (op_eqD hr.units) p_eq (j_var 1) j_int (nomark _)) (jw_or1 (jt_cmp (op_neD hr.units) p_ne (j_ix (j_var 0) (j_var 1)) (j_ix (j_var 0) (j_op op_sub p_sub (j_var 1) j_int)) (nomark _))))))) (fun _ _ _ _ _ => (j_var 1))) ja_nil))))
theorem sc_law_counts : FnScope N_law_counts ["_law_pool"] (defScope s_law_counts) := ⟨rfl, rfl, rfl, by decide +kernel, rfl, by decide +kernel, by decide +kernel⟩
theorem ok_law_counts (T : Tx K mg a) : FnOk P w K mg base (L2.CX P w) 2 a.f_law_counts a.d_law_counts ["_law_pool"] (liftSp K 1 C_law_counts) := by
  refine fn_ok T.F_law_counts sc_law_counts (by decide) (fun cdv A outer s H E hr => ?_) pl_law_counts
  have tk : Takes (cxOf (L2.CX P w) P w K mg base N_law_counts "_law_counts" (defScope s_law_counts) a.f_law_counts cdv A outer s H E) (fun cls d _ H => E cls d H) := takes_of rfl rfl rfl rfl
  exact (jss_cons (js_setLc false (i := 1) (own := [("_law_turn", 2)]) rfl sc_law_counts.nd rfl rfl (sw_true rfl rfl rfl (by decide +kernel)) (ct_name (by decide)) (ji_range1 rfl T.z_range (ja_cons (j_op o_add (p_add true) j_int (j_frz (j_call (ok_law_draw T) (hr.mono (by decide)) rfl T.g_law_draw T.F_law_draw.kp T.b_law_draw (pxT tk) (ja_cons (j_var 0) (ja_cons j_int ja_nil))))) ja_nil)) (blkOk_by (N := N_law_counts) (sc := (defScope s_law_counts)) (by decide +kernel)) (fun _ _ _ _ _ => (pg_name (i := 2) sc_law_counts.nd rfl (by first | exact Or.inl rfl | exact Or.inr rfl))) (fun _ _ _ _ _ => jts_nil) (fun _ _ _ _ _ => (j_ix (j_lst true (ja_cons j_int (ja_cons j_int (ja_cons j_int (ja_cons j_int (ja_cons j_int (ja_cons (j_frz (j_call (ok_law_draw T) (hr.mono (by decide)) rfl T.g_law_draw T.F_law_draw.kp T.b_law_draw px0 (ja_cons (j_var 0) (ja_cons j_int ja_nil)))) ja_nil))))))) (j_frz (j_call (ok_law_draw T) (hr.mono (by decide)) rfl T.g_law_draw T.F_law_draw.kp T.b_law_draw px0 (ja_cons (j_var 0) (ja_cons j_int ja_nil)))))))
    (jss_cons (js_if (jt_cmp (op_eqD hr.units) p_eq (j_frz (j_call (ok_law_draw T) (hr.mono (by decide)) rfl T.g_law_draw T.F_law_draw.kp T.b_law_draw (pxT tk) (ja_cons (j_var 0) (ja_cons j_int ja_nil)))) j_int (nomark _)) (jss_one (js_asg (j_op o_add (p_add true) (j_cb (cr_sum rfl) c_sum rfl T.z_sum (by decide +kernel) (ja_cons (j_lc true (own := [("_law_count", 3)]) rfl sc_law_counts.nd (ct_name (by decide)) (ji_seq (j_var 1)) (blkOk_by (N := N_law_counts) (sc := (defScope s_law_counts)) (by decide +kernel)) (fun _ _ _ _ _ => (pg_name (i := 3) sc_law_counts.nd rfl (by first | exact Or.inl rfl | exact Or.inr rfl))) (fun _ _ _ _ _ => jts_nil) (fun _ _ _ _ _ => (j_cty call_int1 c_int rfl T.z_int (by decide +kernel) (ja_cons (j_var 3) ja_nil)))) ja_nil)) (j_frz (j_call (ok_law_draw T) (hr.mono (by decide)) rfl T.g_law_draw T.F_law_draw.kp T.b_law_draw (pxT tk) (ja_cons (j_var 0) (ja_cons j_int ja_nil))))) (jg_sub (j_var 1) (j_frz (j_call (ok_law_draw T) (hr.mono (by decide)) rfl T.g_law_draw T.F_law_draw.kp T.b_law_draw (pxT tk) (ja_cons (j_var 0) (ja_cons (j_cb call_len c_len rfl T.z_len (by decide +kernel) (ja_cons (j_var 1) ja_nil)) ja_nil))))))) jss_nil)
    (jss_one (js_ret (j_var 1)))))
theorem sc_check_sizes : FnScope N_check_sizes ["sizes", "most"] (defScope s_check_sizes) := ⟨rfl, rfl, rfl, by decide +kernel, rfl, by decide +kernel, by decide +kernel⟩
theorem ok_check_sizes (T : Tx K mg a) : FnOk P w K mg base (L2.CX P w) 3 a.f_check_sizes a.d_check_sizes ["sizes", "most"] (liftSp K 2 (C_check_sizes a)) := by
  refine fn_ok T.F_check_sizes sc_check_sizes (by decide) (fun cdv A outer s H E hr => ?_) (pl_check_sizes T)
  have tk : Takes (cxOf (L2.CX P w) P w K mg base N_check_sizes "check_sizes" (defScope s_check_sizes) a.f_check_sizes cdv A outer s H E) (fun cls d _ H => E cls d H) := takes_of rfl rfl rfl rfl
  exact (jss_cons (js_if (jt_w (jw_or (jt_not (jt_tru (j_cb call_isi c_isi rfl T.z_isinstance (by decide +kernel) (ja_cons (j_var 0) (ja_cons (j_ty rfl T.z_list (by decide +kernel)) ja_nil))))) (jw_or1 (jt_not (jt_chain op_le p_le op_le p_le j_int (j_cb call_len c_len rfl T.z_len (by decide +kernel) (ja_cons (j_var 0) ja_nil)) (j_globI rfl (T.c_MOST_FILES).choose_spec)))))) (jss_one (js_raise T.o_InvalidSizes T.i_InvalidSizes T.t_InvalidSizes (okI_InvalidSizes T) T.BI_InvalidSizes (hr.mono (by decide)) rfl tk rfl T.g_InvalidSizes (ja_cons j_non ja_nil))) jss_nil)
    (jss_one (js_for (passes_of rfl) rfl (ji_enum rfl T.z_enumerate (ja_cons (j_var 0) ja_nil)) (jg_tup rfl (jgs_cons (jg_name (i := 2) sc_check_sizes.nd rfl (by first | exact Or.inl rfl | exact Or.inr rfl)) (jgs_cons (jg_name (i := 3) sc_check_sizes.nd rfl (by first | exact Or.inl rfl | exact Or.inr rfl)) jgs_nil))) (jss_one (js_if (jt_not (jt_tru (j_frz (j_call (ok_is_integer T) (hr.mono (by decide)) rfl T.g_is_integer T.F_is_integer.kp T.b_is_integer (pxT tk) (ja_cons (j_var 3) (ja_cons j_int (ja_cons (j_var 1) ja_nil))))))) (jss_one (js_raise T.o_InvalidSizes T.i_InvalidSizes T.t_InvalidSizes (okI_InvalidSizes T) T.BI_InvalidSizes (hr.mono (by decide)) rfl tk rfl T.g_InvalidSizes (ja_cons (j_var 2) ja_nil))) jss_nil)))))
theorem sc_order_of : FnScope N_order_of ["counts"] (defScope s_order_of) := ⟨rfl, rfl, rfl, by decide +kernel, rfl, by decide +kernel, by decide +kernel⟩
theorem ok_order_of (T : Tx K mg a) : FnOk P w K mg base (L2.CX P w) 4 a.f_order_of a.d_order_of ["counts"] (liftSp K 1 (C_order_of a)) := by
  refine fn_ok T.F_order_of sc_order_of (by decide) (fun cdv A outer s H E hr => ?_) (pl_order_of T)
  have tk : Takes (cxOf (L2.CX P w) P w K mg base N_order_of "order_of" (defScope s_order_of) a.f_order_of cdv A outer s H E) (fun cls d _ H => E cls d H) := takes_of rfl rfl rfl rfl
  exact (jss_cons (js_expr (j_frz (j_call (ok_check_sizes T) (hr.mono (by decide)) rfl T.g_check_sizes T.F_check_sizes.kp T.b_check_sizes (pxT tk) (ja_cons (j_var 0) (ja_cons (j_globI rfl (T.c_MOST_COUNT).choose_spec) ja_nil)))))
    (jss_one (js_ret (j_call (ok_in_order T) (hr.mono (by decide)) rfl T.g_in_order T.F_in_order.kp T.b_in_order (pxT tk) (ja_cons (j_var 0) ja_nil)))))
theorem sc_law_refused : FnScope N_law_refused ["_law_thing"] (defScope s_law_refused) := ⟨rfl, rfl, rfl, by decide +kernel, rfl, by decide +kernel, by decide +kernel⟩
theorem ok_law_refused (T : Tx K mg a) : FnOk P w K mg base (L2.CX P w) 5 a.f_law_refused a.d_law_refused ["_law_thing"] (liftSp K 1 C_law_refused) := by
  refine fn_ok T.F_law_refused sc_law_refused (by decide) (fun cdv A outer s H E hr => ?_) (pl_law_refused T)
  have tk : Takes (cxOf (L2.CX P w) P w K mg base N_law_refused "_law_refused" (defScope s_law_refused) a.f_law_refused cdv A outer s H E) (fun cls d _ H => E cls d H) := takes_of rfl rfl rfl rfl
  exact (jss_cons (js_try rfl rfl sc_law_refused.nd rfl rfl (names_own rfl T.g_GrowError) tk (fun _ _ _ tk hp => (jss_one (js_expr (j_frz (j_call (ok_order_of T) (hr.mono (by decide)) rfl T.g_order_of T.F_order_of.kp T.b_order_of (pxT tk) (ja_cons (j_var 0) ja_nil)))))) (fun ea oe ecls ed pn hz hf => (jss_one (js_ret (j_if (jt_w (jw_and (jt_tru (j_cb (call_is2 hz hf) c_isE rfl T.z_isinstance (by decide +kernel) (ja_cons (j_var 1) (ja_cons (j_globR rfl T.g_InvalidSizes) ja_nil)))) (jw_and1 (jt_not (jt_tru (j_cb (call_is2 hz hf) c_isE rfl T.z_isinstance (by decide +kernel) (ja_cons (j_var 1) (ja_cons (j_globR rfl T.g_InvalidNumber) ja_nil)))))))) (j_tup (ja_cons j_str (ja_cons (j_xf hz hf (j_var 1)) ja_nil))) j_non)))))
    (jss_one (js_ret j_non)))
theorem sc_law : FnScope N_law ["_law_script"] (defScope s_law) := ⟨rfl, rfl, rfl, by decide +kernel, rfl, by decide +kernel, by decide +kernel⟩
theorem ok_law (T : Tx K mg a) : FnOk P w K mg base (L2.CX P w) 6 a.f_law a.d_law ["_law_script"] (liftSp K 1 C_law) := by
  refine fn_ok T.F_law sc_law (by decide) (fun cdv A outer s H E hr => ?_) (pl_law T)
  have tk : Takes (cxOf (L2.CX P w) P w K mg base N_law "law" (defScope s_law) a.f_law cdv A outer s H E) (fun cls d _ H => E cls d H) := takes_of rfl rfl rfl rfl
  exact (jss_cons (js_if (jt_w (jw_or (jt_cmp (op_neD hr.units) p_ne (j_cb call_len c_len rfl T.z_len (by decide +kernel) (ja_cons (j_frz (j_call (ok_order_of T) (hr.mono (by decide)) rfl T.g_order_of T.F_order_of.kp T.b_order_of (pxT tk) (ja_cons (j_lst true (ja_cons j_int ja_nil)) ja_nil))) ja_nil)) j_int (nomark _)) (jw_or1 (jt_cmp (op_neD hr.units) p_ne (j_frz (j_call (ok_law_groups T) (hr.mono (by decide)) rfl T.g_law_groups T.F_law_groups.kp T.b_law_groups (pxT tk) (ja_cons (j_frz (j_call (ok_order_of T) (hr.mono (by decide)) rfl T.g_order_of T.F_order_of.kp T.b_order_of (pxT tk) (ja_cons (j_lst true (ja_cons j_int (ja_cons j_int ja_nil))) ja_nil))) ja_nil))) j_int (nomark _))))) (jss_one (js_ret j_bl)) jss_nil)
    (jss_cons (js_for (passes_of rfl) rfl (ji_range1 rfl T.z_range (ja_cons (j_cb (call_maxA rfl) c_max rfl T.z_max (by decide +kernel) (ja_cons j_int (ja_cons (j_cb (call_minA rfl) c_min rfl T.z_min (by decide +kernel) (ja_cons (j_cb call_len c_len rfl T.z_len (by decide +kernel) (ja_cons (j_var 0) ja_nil)) (ja_cons j_int ja_nil))) ja_nil))) ja_nil)) (jg_name (i := 1) sc_law.nd rfl (by first | exact Or.inl rfl | exact Or.inr rfl)) (jss_cons (js_set (i := 2) sc_law.nd rfl (by first | exact Or.inl rfl | exact Or.inr rfl) (j_frz (j_call (ok_law_hand T) (hr.mono (by decide)) rfl T.g_law_hand T.F_law_hand.kp T.b_law_hand (pxT tk) (ja_cons (j_var 0) (ja_cons (j_var 1) ja_nil)))))
    (jss_cons (js_set (i := 3) sc_law.nd rfl (by first | exact Or.inl rfl | exact Or.inr rfl) (j_frz (j_call (ok_law_counts T) (hr.mono (by decide)) rfl T.g_law_counts T.F_law_counts.kp T.b_law_counts (pxT tk) (ja_cons (j_var 2) ja_nil))))
    (jss_cons (js_set (i := 4) sc_law.nd rfl (by first | exact Or.inl rfl | exact Or.inr rfl) (j_cty call_list_of (c_list true) rfl T.z_list (by decide +kernel) (ja_cons (j_var 3) ja_nil)))
    (jss_cons (js_set (i := 5) sc_law.nd rfl (by first | exact Or.inl rfl | exact Or.inr rfl) (j_frz (j_call (ok_order_of T) (hr.mono (by decide)) rfl T.g_order_of T.F_order_of.kp T.b_order_of (pxT tk) (ja_cons (j_var 4) ja_nil))))
    (jss_cons (js_if (jt_w (jw_or (jt_cmp (op_neD hr.units) p_ne (j_var 4) (j_var 3) (nomark _)) (jw_or (jt_not (jt_tru (j_cb call_isi c_isi rfl T.z_isinstance (by decide +kernel) (ja_cons (j_var 5) (ja_cons (j_ty rfl T.z_list (by decide +kernel)) ja_nil))))) (jw_or1 (jt_cmp (op_neD hr.units) p_ne (j_cb call_len c_len rfl T.z_len (by decide +kernel) (ja_cons (j_var 5) ja_nil)) (j_cb (cr_sum rfl) c_sum rfl T.z_sum (by decide +kernel) (ja_cons (j_lc true (own := [("_law_count", 6)]) rfl sc_law.nd (ct_name (by decide)) (ji_seq (j_var 3)) (blkOk_by (N := N_law) (sc := (defScope s_law)) (by decide +kernel)) (fun _ _ _ _ _ => (pg_name (i := 6) sc_law.nd rfl (by first | exact Or.inl rfl | exact Or.inr rfl))) (fun _ _ _ _ _ => jts_nil) (fun _ _ _ _ _ => (j_cty call_int1 c_int rfl T.z_int (by decide +kernel) (ja_cons (j_var 6) ja_nil)))) ja_nil)) (nomark _)))))) (jss_one (js_ret j_bl)) jss_nil)
    (jss_cons (js_if (jt_cmp (op_neD hr.units) p_ne (j_lc true (own := [("_law_at", 8)]) rfl sc_law.nd (ct_name (by decide)) (ji_range1 rfl T.z_range (ja_cons (j_cb call_len c_len rfl T.z_len (by decide +kernel) (ja_cons (j_var 3) ja_nil)) ja_nil)) (blkOk_by (N := N_law) (sc := (defScope s_law)) (by decide +kernel)) (fun _ _ _ _ _ => (pg_name (i := 8) sc_law.nd rfl (by first | exact Or.inl rfl | exact Or.inr rfl))) (fun _ _ _ _ _ => jts_nil) (fun _ _ _ _ _ => (j_cb call_len c_len rfl T.z_len (by decide +kernel) (ja_cons (j_lc true (own := [("_law_one", 7)]) rfl sc_law.nd (ct_name (by decide)) (ji_seq (j_var 5)) (blkOk_by (by first | decide +kernel | kernel_rfl)) (fun _ _ _ _ _ => (pg_name (i := 7) sc_law.nd rfl (by first | exact Or.inl rfl | exact Or.inr rfl))) (fun _ _ _ _ _ => (jts_one (jt_cmp (op_eqD hr.units) p_eq (j_var 7) (j_var 8) (nomark _)))) (fun _ _ _ _ _ => (j_var 7))) ja_nil)))) (j_var 3) (nomark _)) (jss_one (js_ret j_bl)) jss_nil)
    (jss_cons (js_set (i := 9) sc_law.nd rfl (by first | exact Or.inl rfl | exact Or.inr rfl) (j_cb (call_maxA rfl) c_max rfl T.z_max (by decide +kernel) (ja_cons (j_lc true (own := [("_law_count", 6)]) rfl sc_law.nd (ct_name (by decide)) (ji_seq (j_var 3)) (blkOk_by (N := N_law) (sc := (defScope s_law)) (by decide +kernel)) (fun _ _ _ _ _ => (pg_name (i := 6) sc_law.nd rfl (by first | exact Or.inl rfl | exact Or.inr rfl))) (fun _ _ _ _ _ => jts_nil) (fun _ _ _ _ _ => (j_cty call_int1 c_int rfl T.z_int (by decide +kernel) (ja_cons (j_var 6) ja_nil)))) ja_nil)))
    (jss_cons (js_set (i := 10) sc_law.nd rfl (by first | exact Or.inl rfl | exact Or.inr rfl) (j_op op_sub p_sub (j_cb call_len c_len rfl T.z_len (by decide +kernel) (ja_cons (j_var 5) ja_nil)) (j_var 9)))
    (jss_cons (js_if (jt_cmp (op_neD hr.units) p_ne (j_frz (j_call (ok_law_groups T) (hr.mono (by decide)) rfl T.g_law_groups T.F_law_groups.kp T.b_law_groups (pxT tk) (ja_cons (j_var 5) ja_nil))) (j_if (jt_cmp op_le p_le (j_var 9) (j_op o_add (p_add true) (j_var 10) j_int) (nomark _)) (j_cb call_len c_len rfl T.z_len (by decide +kernel) (ja_cons (j_var 5) ja_nil)) (j_op o_add (p_add true) (j_op o_mul (p_mul true) j_int (j_var 10)) j_int)) (nomark _)) (jss_one (js_ret j_bl)) jss_nil)
    (jss_cons (js_set (i := 8) sc_law.nd rfl (by first | exact Or.inl rfl | exact Or.inr rfl) (j_frz (j_call (ok_law_draw T) (hr.mono (by decide)) rfl T.g_law_draw T.F_law_draw.kp T.b_law_draw (pxT tk) (ja_cons (j_var 2) (ja_cons (j_cb call_len c_len rfl T.z_len (by decide +kernel) (ja_cons (j_var 3) ja_nil)) ja_nil)))))
    (jss_cons (js_set (i := 11) sc_law.nd rfl (by first | exact Or.inl rfl | exact Or.inr rfl) (j_op o_add (p_add true) (j_op o_add (p_add true) (j_sl true (j_var 3) jo_none (jo_some (j_var 8))) (j_lst true (ja_cons (j_ix (j_lst true (ja_cons j_non (ja_cons j_bl (ja_cons (j_op op_sub p_sub j_int j_int) (ja_cons j_int (ja_cons j_str ja_nil)))))) (j_frz (j_call (ok_law_draw T) (hr.mono (by decide)) rfl T.g_law_draw T.F_law_draw.kp T.b_law_draw (pxT tk) (ja_cons (j_var 2) (ja_cons j_int ja_nil))))) ja_nil))) (j_sl true (j_var 3) (jo_some (j_op o_add (p_add true) (j_var 8) j_int)) jo_none)))
    (jss_cons (js_if (jt_cmp (op_neD hr.units) p_ne (j_frz (j_call (ok_law_refused T) (hr.mono (by decide)) rfl T.g_law_refused T.F_law_refused.kp T.b_law_refused (pxT tk) (ja_cons (j_var 11) ja_nil))) (j_tup (ja_cons j_str (ja_cons (j_var 8) ja_nil))) (nomark _)) (jss_one (js_ret j_bl)) jss_nil)
    (jss_one (js_for (passes_of rfl) rfl (ji_seq (j_lst true (ja_cons j_non (ja_cons (j_lst true ja_nil) (ja_cons (j_tup (ja_cons j_int (ja_cons j_int ja_nil))) (ja_cons (j_op o_mul (p_mul true) (j_lst true (ja_cons j_int ja_nil)) j_int) (ja_cons j_str (ja_cons j_int ja_nil)))))))) (jg_name (i := 12) sc_law.nd rfl (by first | exact Or.inl rfl | exact Or.inr rfl)) (jss_one (js_if (jt_cmp (op_neD hr.units) p_ne (j_frz (j_call (ok_law_refused T) (hr.mono (by decide)) rfl T.g_law_refused T.F_law_refused.kp T.b_law_refused (pxT tk) (ja_cons (j_var 12) ja_nil))) (j_tup (ja_cons j_str (ja_cons j_non ja_nil))) (nomark _)) (jss_one (js_ret j_bl)) jss_nil)))))))))))))))))
    (jss_one (js_ret j_bl))))
end
theorem all_mk {l : PySem.W.OpenLaw} {w : World} {K : PySem.W.Frag} {h : Heap} {mg : Str → Option Value} {fa : Addr} (X : K.In h) (G : h.Ns mainGlobals mg) (hfa : mg "law" = some (.ref fa))
    {f1 : Addr} {od1 an1 : Option Addr} {sl1 : Array (Option Value)} {oc1 kV1 dc1 pm1 cd1 ct1 : Value}
    {f2 : Addr} {od2 an2 : Option Addr} {sl2 : Array (Option Value)} {oc2 kV2 dc2 pm2 cd2 ct2 : Value}
    {f3 : Addr} {od3 an3 : Option Addr} {sl3 : Array (Option Value)} {oc3 kV3 dc3 pm3 cd3 ct3 : Value}
    {f4 : Addr} {od4 an4 : Option Addr} {sl4 : Array (Option Value)} {oc4 kV4 dc4 pm4 cd4 ct4 : Value}
    {f5 : Addr} {od5 an5 : Option Addr} {sl5 : Array (Option Value)} {oc5 kV5 dc5 pm5 cd5 ct5 : Value}
    {f6 : Addr} {od6 an6 : Option Addr} {sl6 : Array (Option Value)} {oc6 kV6 dc6 pm6 cd6 ct6 : Value}
    {f7 : Addr} {od7 an7 : Option Addr} {sl7 : Array (Option Value)} {oc7 kV7 dc7 pm7 cd7 ct7 : Value}
    {f8 : Addr} {od8 an8 : Option Addr} {sl8 : Array (Option Value)} {oc8 kV8 dc8 pm8 cd8 ct8 : Value}
    {f9 : Addr} {od9 an9 : Option Addr} {sl9 : Array (Option Value)} {oc9 kV9 dc9 pm9 cd9 ct9 : Value}
    {f10 : Addr} {od10 an10 : Option Addr} {sl10 : Array (Option Value)} {oc10 kV10 dc10 pm10 cd10 ct10 : Value}
    {t_MOST_COUNT : Tok}
    {t_MOST_FILES : Tok}
    {c_InvalidSizes : Addr}
    {c_GrowError : Addr}
    {c_InvalidNumber : Addr}
    {i_InvalidSizes : Addr} {xnm_InvalidSizes xq_InvalidSizes : Str} {xN_InvalidSizes : Addr} {xbs_InvalidSizes : List Value} {xsn_InvalidSizes : List Str} {xsub_InvalidSizes : List Value} {xab_InvalidSizes : Bool} {xcol_InvalidSizes : Option Bool} {xdd_InvalidSizes : Option Addr} {m0_InvalidSizes m1_InvalidSizes m2_InvalidSizes m3_InvalidSizes m5_InvalidSizes : Option Value} {od_InvalidSizes an_InvalidSizes : Option Addr} {sl_InvalidSizes : Array (Option Value)} {oc_InvalidSizes kV_InvalidSizes dc_InvalidSizes pm_InvalidSizes cd_InvalidSizes ct_InvalidSizes : Value}
    (a1 : PySem.W.nsIn K mainGlobals "is_integer" = some (some (.ref f1))) (l1 : K.lookup f1 = some ⟨oc1, od1, .func (PySem.W.fnOf "is_integer" "is_integer" (defArgs s_is_integer) (defBody s_is_integer) (defScope s_is_integer) .none kV1 dc1 pm1 an1 cd1 ct1), sl1⟩) (c1 : PySem.W.codeIn K cd1 "is_integer" = true) (k1 : PySem.W.keepIn K (.ref f1) = true)
    (a2 : PySem.W.nsIn K mainGlobals "check_sizes" = some (some (.ref f2))) (l2 : K.lookup f2 = some ⟨oc2, od2, .func (PySem.W.fnOf "check_sizes" "check_sizes" (defArgs s_check_sizes) (defBody s_check_sizes) (defScope s_check_sizes) .none kV2 dc2 pm2 an2 cd2 ct2), sl2⟩) (c2 : PySem.W.codeIn K cd2 "check_sizes" = true) (k2 : PySem.W.keepIn K (.ref f2) = true)
    (a3 : PySem.W.nsIn K mainGlobals "in_order" = some (some (.ref f3))) (l3 : K.lookup f3 = some ⟨oc3, od3, .func (PySem.W.fnOf "in_order" "in_order" (defArgs s_in_order) (defBody s_in_order) (defScope s_in_order) .none kV3 dc3 pm3 an3 cd3 ct3), sl3⟩) (c3 : PySem.W.codeIn K cd3 "in_order" = true) (k3 : PySem.W.keepIn K (.ref f3) = true)
    (a4 : PySem.W.nsIn K mainGlobals "order_of" = some (some (.ref f4))) (l4 : K.lookup f4 = some ⟨oc4, od4, .func (PySem.W.fnOf "order_of" "order_of" (defArgs s_order_of) (defBody s_order_of) (defScope s_order_of) .none kV4 dc4 pm4 an4 cd4 ct4), sl4⟩) (c4 : PySem.W.codeIn K cd4 "order_of" = true) (k4 : PySem.W.keepIn K (.ref f4) = true)
    (a5 : PySem.W.nsIn K mainGlobals "_law_hand" = some (some (.ref f5))) (l5 : K.lookup f5 = some ⟨oc5, od5, .func (PySem.W.fnOf "_law_hand" "_law_hand" (defArgs s_law_hand) (defBody s_law_hand) (defScope s_law_hand) .none kV5 dc5 pm5 an5 cd5 ct5), sl5⟩) (c5 : PySem.W.codeIn K cd5 "_law_hand" = true) (k5 : PySem.W.keepIn K (.ref f5) = true)
    (a6 : PySem.W.nsIn K mainGlobals "_law_draw" = some (some (.ref f6))) (l6 : K.lookup f6 = some ⟨oc6, od6, .func (PySem.W.fnOf "_law_draw" "_law_draw" (defArgs s_law_draw) (defBody s_law_draw) (defScope s_law_draw) .none kV6 dc6 pm6 an6 cd6 ct6), sl6⟩) (c6 : PySem.W.codeIn K cd6 "_law_draw" = true) (k6 : PySem.W.keepIn K (.ref f6) = true)
    (a7 : PySem.W.nsIn K mainGlobals "_law_counts" = some (some (.ref f7))) (l7 : K.lookup f7 = some ⟨oc7, od7, .func (PySem.W.fnOf "_law_counts" "_law_counts" (defArgs s_law_counts) (defBody s_law_counts) (defScope s_law_counts) .none kV7 dc7 pm7 an7 cd7 ct7), sl7⟩) (c7 : PySem.W.codeIn K cd7 "_law_counts" = true) (k7 : PySem.W.keepIn K (.ref f7) = true)
    (a8 : PySem.W.nsIn K mainGlobals "_law_groups" = some (some (.ref f8))) (l8 : K.lookup f8 = some ⟨oc8, od8, .func (PySem.W.fnOf "_law_groups" "_law_groups" (defArgs s_law_groups) (defBody s_law_groups) (defScope s_law_groups) .none kV8 dc8 pm8 an8 cd8 ct8), sl8⟩) (c8 : PySem.W.codeIn K cd8 "_law_groups" = true) (k8 : PySem.W.keepIn K (.ref f8) = true)
    (a9 : PySem.W.nsIn K mainGlobals "_law_refused" = some (some (.ref f9))) (l9 : K.lookup f9 = some ⟨oc9, od9, .func (PySem.W.fnOf "_law_refused" "_law_refused" (defArgs s_law_refused) (defBody s_law_refused) (defScope s_law_refused) .none kV9 dc9 pm9 an9 cd9 ct9), sl9⟩) (c9 : PySem.W.codeIn K cd9 "_law_refused" = true) (k9 : PySem.W.keepIn K (.ref f9) = true)
    (a10 : PySem.W.nsIn K mainGlobals "law" = some (some (.ref f10))) (l10 : K.lookup f10 = some ⟨oc10, od10, .func (PySem.W.fnOf "law" "law" (defArgs s_law) (defBody s_law) (defScope s_law) .none kV10 dc10 pm10 an10 cd10 ct10), sl10⟩) (c10 : PySem.W.codeIn K cd10 "law" = true) (k10 : PySem.W.keepIn K (.ref f10) = true)
    (z_bool : PySem.W.nsIn K mainGlobals "bool" = some none)
    (z_enumerate : PySem.W.nsIn K mainGlobals "enumerate" = some none)
    (z_int : PySem.W.nsIn K mainGlobals "int" = some none)
    (z_isinstance : PySem.W.nsIn K mainGlobals "isinstance" = some none)
    (z_len : PySem.W.nsIn K mainGlobals "len" = some none)
    (z_list : PySem.W.nsIn K mainGlobals "list" = some none)
    (z_max : PySem.W.nsIn K mainGlobals "max" = some none)
    (z_min : PySem.W.nsIn K mainGlobals "min" = some none)
    (z_range : PySem.W.nsIn K mainGlobals "range" = some none)
    (z_sum : PySem.W.nsIn K mainGlobals "sum" = some none)
    (c_MOST_COUNT : PySem.W.nsIn K mainGlobals "MOST_COUNT" = some (some (.int 1000 t_MOST_COUNT)))
    (c_MOST_FILES : PySem.W.nsIn K mainGlobals "MOST_FILES" = some (some (.int 8 t_MOST_FILES)))
    (ga_InvalidSizes : PySem.W.nsIn K mainGlobals "InvalidSizes" = some (some (.ref c_InvalidSizes)))
    (ga_GrowError : PySem.W.nsIn K mainGlobals "GrowError" = some (some (.ref c_GrowError)))
    (ga_InvalidNumber : PySem.W.nsIn K mainGlobals "InvalidNumber" = some (some (.ref c_InvalidNumber)))
    (xL_InvalidSizes : K.lookup c_InvalidSizes = some (excClassObj xnm_InvalidSizes xq_InvalidSizes c_InvalidSizes xN_InvalidSizes xbs_InvalidSizes [.ref c_GrowError, .type "ValueError", .type "Exception", .type "BaseException", .type "object"] true xsn_InvalidSizes xsub_InvalidSizes xab_InvalidSizes xcol_InvalidSizes xdd_InvalidSizes m0_InvalidSizes m1_InvalidSizes m2_InvalidSizes m3_InvalidSizes m5_InvalidSizes "ValueError.__new__"))
    (xsa_InvalidSizes : PySem.W.findIn K (.ref c_InvalidSizes) "__setattr__" = some (some (.builtin "object.__setattr__")))
    (xga_InvalidSizes : PySem.W.findIn K (.ref c_InvalidSizes) "__getattribute__" = some (some (.builtin "BaseException.__getattribute__")))
    (xgg_InvalidSizes : PySem.W.findIn K (.ref c_InvalidSizes) "__getattr__" = some none)
    (xnf_InvalidSizes : PySem.W.findIn K (.ref c_InvalidSizes) "number" = some none)
    (xi_InvalidSizes : PySem.W.findIn K (.ref c_InvalidSizes) "__init__" = some (some (.ref i_InvalidSizes)))
    (xt_InvalidSizes : PySem.W.typeIn K (.ref i_InvalidSizes) = some (.type "function"))
    (xl_InvalidSizes : K.lookup i_InvalidSizes = some ⟨oc_InvalidSizes, od_InvalidSizes, .func (PySem.W.fnOf "__init__" "InvalidSizes.__init__" (defArgs si_InvalidSizes) (defBody si_InvalidSizes) (defScope si_InvalidSizes) .none kV_InvalidSizes dc_InvalidSizes pm_InvalidSizes an_InvalidSizes cd_InvalidSizes ct_InvalidSizes), sl_InvalidSizes⟩)
    (xc_InvalidSizes : PySem.W.codeIn K cd_InvalidSizes "InvalidSizes.__init__" = true)
    (xki_InvalidSizes : PySem.W.keepIn K (.ref i_InvalidSizes) = true)
    (xk_InvalidSizes : PySem.W.keepIn K (.ref c_InvalidSizes) = true)
    (xe_InvalidSizes : PySem.W.subIn K (.ref c_InvalidSizes) (.type "BaseException") = some true)
    (xty_InvalidSizes : PySem.W.typeIn K (.ref c_InvalidSizes) = some (.type "type"))
    (xh_InvalidSizes : PySem.W.hasDictIn K c_InvalidSizes = true)
    (xcl_InvalidSizes : PySem.W.findIn K (.ref c_InvalidSizes) "__class__" = some (some (.builtin "object.__class__")))
    (xsp_InvalidSizes : PySem.W.specialIn K (.builtin "object.__class__") "__get__" = some (some (.builtin "getset_descriptor.__get__")))
    (xtk_InvalidSizes : PySem.W.takesIn K (.builtin "object.__class__") = some true)
    (xm_InvalidSizes : PySem.W.mroIn K c_InvalidSizes (.type "object") = some true)
    (ye_GrowError : PySem.W.subIn K (.ref c_GrowError) (.type "BaseException") = some true) (yh_GrowError : PySem.W.hasDictIn K c_GrowError = true) (yt_GrowError : PySem.W.typeIn K (.ref c_GrowError) = some (.type "type"))
    (ys_InvalidSizes_GrowError : PySem.W.subIn K (.ref c_InvalidSizes) (.ref c_GrowError) = some true)
    (yk_InvalidSizes_InvalidSizes : PySem.W.kitOne K (.ref c_InvalidSizes) (.ref c_InvalidSizes) = some true)
    (yk_InvalidSizes_InvalidNumber : PySem.W.kitOne K (.ref c_InvalidSizes) (.ref c_InvalidNumber) = some false) :
    ∃ fd : FuncData, (∀ (s : Shared) (v : Value), BindsTo s fd ⟨[v], []⟩ [("_law_script", v)]) ∧ ∀ base : Heap, K.In base → base.Ns mainGlobals mg → FnOk l.prog w K mg base (L2.CX l.prog w) 6 fa fd ["_law_script"] (liftSp K 1 C_law) := by
  have e := hfa.symm.trans (PySem.W.mg_of X G a10)
  cases e
  have F1 := fun_mk (st := s_is_integer) l1 c1 k1
  have b1 := F1.binds (ps := ["thing", "least", "most"]) fun _ _ _ _ _ _ us hl => match us, hl with | [_, _, _], _ => rfl
  have F2 := fun_mk (st := s_check_sizes) l2 c2 k2
  have b2 := F2.binds (ps := ["sizes", "most"]) fun _ _ _ _ _ _ us hl => match us, hl with | [_, _], _ => rfl
  have F3 := fun_mk (st := s_in_order) l3 c3 k3
  have b3 := F3.binds (ps := ["counts"]) fun _ _ _ _ _ _ us hl => match us, hl with | [_], _ => rfl
  have F4 := fun_mk (st := s_order_of) l4 c4 k4
  have b4 := F4.binds (ps := ["counts"]) fun _ _ _ _ _ _ us hl => match us, hl with | [_], _ => rfl
  have F5 := fun_mk (st := s_law_hand) l5 c5 k5
  have b5 := F5.binds (ps := ["_law_script", "_law_k"]) fun _ _ _ _ _ _ us hl => match us, hl with | [_, _], _ => rfl
  have F6 := fun_mk (st := s_law_draw) l6 c6 k6
  have b6 := F6.binds (ps := ["_law_pool", "_law_many"]) fun _ _ _ _ _ _ us hl => match us, hl with | [_, _], _ => rfl
  have F7 := fun_mk (st := s_law_counts) l7 c7 k7
  have b7 := F7.binds (ps := ["_law_pool"]) fun _ _ _ _ _ _ us hl => match us, hl with | [_], _ => rfl
  have F8 := fun_mk (st := s_law_groups) l8 c8 k8
  have b8 := F8.binds (ps := ["_law_found"]) fun _ _ _ _ _ _ us hl => match us, hl with | [_], _ => rfl
  have F9 := fun_mk (st := s_law_refused) l9 c9 k9
  have b9 := F9.binds (ps := ["_law_thing"]) fun _ _ _ _ _ _ us hl => match us, hl with | [_], _ => rfl
  have F10 := fun_mk (st := s_law) l10 c10 k10
  have b10 := F10.binds (ps := ["_law_script"]) fun _ _ _ _ _ _ us hl => match us, hl with | [_], _ => rfl
  have FI_InvalidSizes := fun_mk (st := si_InvalidSizes) xl_InvalidSizes xc_InvalidSizes xki_InvalidSizes
  have BI_InvalidSizes := FI_InvalidSizes.binds (ps := ["self", "number"]) fun _ _ _ _ _ _ us hl => match us, hl with | [_, _], _ => rfl
  have TT : Tx K mg { f_is_integer := f1, d_is_integer := _, f_check_sizes := f2, d_check_sizes := _, f_in_order := f3, d_in_order := _, f_order_of := f4, d_order_of := _, f_law_hand := f5, d_law_hand := _, f_law_draw := f6, d_law_draw := _, f_law_counts := f7, d_law_counts := _, f_law_groups := f8, d_law_groups := _, f_law_refused := f9, d_law_refused := _, f_law := fa, d_law := _, c_InvalidSizes := c_InvalidSizes, c_GrowError := c_GrowError, c_InvalidNumber := c_InvalidNumber, i_InvalidSizes := i_InvalidSizes, e_InvalidSizes := _ } := { F_is_integer := F1, b_is_integer := b1, g_is_integer := PySem.W.mg_of X G a1, F_check_sizes := F2, b_check_sizes := b2, g_check_sizes := PySem.W.mg_of X G a2, F_in_order := F3, b_in_order := b3, g_in_order := PySem.W.mg_of X G a3, F_order_of := F4, b_order_of := b4, g_order_of := PySem.W.mg_of X G a4, F_law_hand := F5, b_law_hand := b5, g_law_hand := PySem.W.mg_of X G a5, F_law_draw := F6, b_law_draw := b6, g_law_draw := PySem.W.mg_of X G a6, F_law_counts := F7, b_law_counts := b7, g_law_counts := PySem.W.mg_of X G a7, F_law_groups := F8, b_law_groups := b8, g_law_groups := PySem.W.mg_of X G a8, F_law_refused := F9, b_law_refused := b9, g_law_refused := PySem.W.mg_of X G a9, F_law := F10, b_law := b10, g_law := PySem.W.mg_of X G a10, z_bool := PySem.W.mg_none_of X G z_bool, z_enumerate := PySem.W.mg_none_of X G z_enumerate, z_int := PySem.W.mg_none_of X G z_int, z_isinstance := PySem.W.mg_none_of X G z_isinstance, z_len := PySem.W.mg_none_of X G z_len, z_list := PySem.W.mg_none_of X G z_list, z_max := PySem.W.mg_none_of X G z_max, z_min := PySem.W.mg_none_of X G z_min, z_range := PySem.W.mg_none_of X G z_range, z_sum := PySem.W.mg_none_of X G z_sum, c_MOST_COUNT := ⟨_, PySem.W.mg_of X G c_MOST_COUNT⟩, c_MOST_FILES := ⟨_, PySem.W.mg_of X G c_MOST_FILES⟩, g_InvalidSizes := PySem.W.mg_of X G ga_InvalidSizes, g_GrowError := PySem.W.mg_of X G ga_GrowError, g_InvalidNumber := PySem.W.mg_of X G ga_InvalidNumber, o_InvalidSizes := ⟨⟨_, _, _, _, _, _, _, _, _, _, _, _, _, _, _, xL_InvalidSizes, rfl⟩, xsa_InvalidSizes, xe_InvalidSizes, xty_InvalidSizes, xk_InvalidSizes⟩, i_InvalidSizes := xi_InvalidSizes, t_InvalidSizes := xt_InvalidSizes, n_InvalidSizes := xnf_InvalidSizes, FI_InvalidSizes := FI_InvalidSizes, BI_InvalidSizes := BI_InvalidSizes, x_InvalidSizes := ⟨xga_InvalidSizes, xgg_InvalidSizes, xe_InvalidSizes, xh_InvalidSizes⟩, q_InvalidSizes := ⟨xga_InvalidSizes, xgg_InvalidSizes, xe_InvalidSizes, xh_InvalidSizes, xcl_InvalidSizes, xsp_InvalidSizes, xtk_InvalidSizes, xm_InvalidSizes⟩, m_InvalidSizes_GrowError := PySem.W.exm_ref ye_GrowError yh_GrowError yt_GrowError ys_InvalidSizes_GrowError, k_InvalidSizes_InvalidSizes := yk_InvalidSizes_InvalidSizes, k_InvalidSizes_InvalidNumber := yk_InvalidSizes_InvalidNumber }
  exact ⟨_, fun s v => .of_eq rfl, fun base _ _ => ok_law TT⟩
end TL
open PySem PySem.W PyProof.Rows
set_option maxHeartbeats 0 in
theorem PySem.Challenge.cw_grownfiles_k57_orders_holds : PySem.Challenge.rw_grownfiles_k57_orders.Holds := by
  w_on; o_law; k_head; (case hw => w_witness2)
  k_fill
  refine L2.walk_of (l := PySem.Challenge.rw_grownfiles_k57_orders) (n := 63) (k := 6) (x := "_law_script") (CX := fun w => L2.CX PySem.Challenge.rw_grownfiles_k57_orders.prog w) (sp := fun w => TL.liftSp _ 1 TL.C_law) rfl (by decide) rfl ⟨rfl, by decide, by decide⟩ (fun w h Y => PySem.W.kIn_of Y) ?F (fun _ H a ns hl hO hS => TL.law_start hS ⟨ns, rfl, hl, fun _ => rfl⟩) (fun _ H s e s' => TL.no_law)
  case F =>
    intro w mg fa h KX G hmg
    refine' TL.all_mk KX G hmg ?a1 ?l1 ?c1 ?k1 ?a2 ?l2 ?c2 ?k2 ?a3 ?l3 ?c3 ?k3 ?a4 ?l4 ?c4 ?k4 ?a5 ?l5 ?c5 ?k5 ?a6 ?l6 ?c6 ?k6 ?a7 ?l7 ?c7 ?k7 ?a8 ?l8 ?c8 ?k8 ?a9 ?l9 ?c9 ?k9 ?a10 ?l10 ?c10 ?k10 ?z_bool ?z_enumerate ?z_int ?z_isinstance ?z_len ?z_list ?z_max ?z_min ?z_range ?z_sum ?c_MOST_COUNT ?c_MOST_FILES ?ga_InvalidSizes ?ga_GrowError ?ga_InvalidNumber ?xL_InvalidSizes ?xsa_InvalidSizes ?xga_InvalidSizes ?xgg_InvalidSizes ?xnf_InvalidSizes ?xi_InvalidSizes ?xt_InvalidSizes ?xl_InvalidSizes ?xc_InvalidSizes ?xki_InvalidSizes ?xk_InvalidSizes ?xe_InvalidSizes ?xty_InvalidSizes ?xh_InvalidSizes ?xcl_InvalidSizes ?xsp_InvalidSizes ?xtk_InvalidSizes ?xm_InvalidSizes ?ye_GrowError ?yh_GrowError ?yt_GrowError ?ys_InvalidSizes_GrowError ?yk_InvalidSizes_InvalidSizes ?yk_InvalidSizes_InvalidNumber
    (case a1 => k_is)
    (case l1 => k_is)
    (case c1 => k_is)
    (case k1 => k_is)
    (case a2 => k_is)
    (case l2 => k_is)
    (case c2 => k_is)
    (case k2 => k_is)
    (case a3 => k_is)
    (case l3 => k_is)
    (case c3 => k_is)
    (case k3 => k_is)
    (case a4 => k_is)
    (case l4 => k_is)
    (case c4 => k_is)
    (case k4 => k_is)
    (case a5 => k_is)
    (case l5 => k_is)
    (case c5 => k_is)
    (case k5 => k_is)
    (case a6 => k_is)
    (case l6 => k_is)
    (case c6 => k_is)
    (case k6 => k_is)
    (case a7 => k_is)
    (case l7 => k_is)
    (case c7 => k_is)
    (case k7 => k_is)
    (case a8 => k_is)
    (case l8 => k_is)
    (case c8 => k_is)
    (case k8 => k_is)
    (case a9 => k_is)
    (case l9 => k_is)
    (case c9 => k_is)
    (case k9 => k_is)
    (case a10 => k_is)
    (case l10 => k_is)
    (case c10 => k_is)
    (case k10 => k_is)
    (case z_bool => k_is)
    (case z_enumerate => k_is)
    (case z_int => k_is)
    (case z_isinstance => k_is)
    (case z_len => k_is)
    (case z_list => k_is)
    (case z_max => k_is)
    (case z_min => k_is)
    (case z_range => k_is)
    (case z_sum => k_is)
    (case c_MOST_COUNT => k_is)
    (case c_MOST_FILES => k_is)
    (case ga_InvalidSizes => k_is)
    (case ga_GrowError => k_is)
    (case ga_InvalidNumber => k_is)
    (case xL_InvalidSizes => k_is)
    (case xsa_InvalidSizes => k_is)
    (case xga_InvalidSizes => k_is)
    (case xgg_InvalidSizes => k_is)
    (case xnf_InvalidSizes => k_is)
    (case xi_InvalidSizes => k_is)
    (case xt_InvalidSizes => k_is)
    (case xl_InvalidSizes => k_is)
    (case xc_InvalidSizes => k_is)
    (case xki_InvalidSizes => k_is)
    (case xk_InvalidSizes => k_is)
    (case xe_InvalidSizes => k_is)
    (case xty_InvalidSizes => k_is)
    (case xh_InvalidSizes => k_is)
    (case xcl_InvalidSizes => k_is)
    (case xsp_InvalidSizes => k_is)
    (case xtk_InvalidSizes => k_is)
    (case xm_InvalidSizes => k_is)
    (case ye_GrowError => k_is)
    (case yh_GrowError => k_is)
    (case yt_GrowError => k_is)
    (case ys_InvalidSizes_GrowError => first | rfl | k_is)
    (case yk_InvalidSizes_InvalidSizes => first | rfl | k_is)
    (case yk_InvalidSizes_InvalidNumber => first | rfl | k_is)
