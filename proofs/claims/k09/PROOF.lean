import PyProof.Rows.All
import Wide.All
import OpenK.AllK
import Wide.FinOn
import HandS.ForMost
import HandS.Exc
import HandS.ExcOwn
import HandS.WordsExc
import HandS.CallSlots
import HandS.Wide
import HandS.Deep
import HandS.IsInst
import HandS.Flow
import HandS.ExcInit
import HandS.ExcIs
import HandS.ExcField
import KE.KExcIs
import HandS.Property
import HandS.MakeKwOnly
import HandS.Defaults
import HandS.Style
import HandS.RaiseMore
import HandS.DictComp
import PyProof.InstNe
import PyProof.LongRange
import PySem.Challenge.RW_grownfiles_k09_books_compared
set_option Elab.async false
set_option linter.all false
set_option maxRecDepth 100000
/-! TL: trees over the hand layer. Values are trees (tuples, and lists that nobody changes any more, are told by what they hold); only what is changed has an address. -/
namespace TL
open PySem L2

inductive T where
  | non | bl (b : Bool) | int (i : Int) | str (x : Str)
  | tup (ts : List T) | lst (ts : List T) | ins (C : Addr) (fs : List (Str × T))
  | ref (a : Addr) | ty (n : String) | scr (ns : List Int)
  | exc (a : Addr) (cls : Value) (d : Option Addr) (fs : List (Str × T))
  deriving Inhabited

/-- what stands at a followed address -/
inductive O where
  | lst (ts : List T) | ins (C : Addr) (fs : List (Str × T)) | pool
  | dK (kvs : List (Key × T)) | dT (kvs : List (List Key × T))
abbrev Hq := Addr → Option O
def put (h : Hq) (a : Addr) (o : O) : Hq := fun b => if b = a then some o else h b
def del (h : Hq) (a : Addr) : Hq := fun b => if b = a then none else h b
@[simp] theorem put_same {h : Hq} {a : Addr} {o : O} : put h a o a = some o := by unfold put; rw [if_pos rfl]
theorem put_ne {h : Hq} {a b : Addr} {o : O} (e : b ≠ a) : put h a o b = h b := by unfold put; rw [if_neg e]
@[simp] theorem put_put {h : Hq} {a : Addr} {o u : O} : put (put h a o) a u = put h a u := by funext b; unfold put; split <;> rfl
theorem put_id {h : Hq} {a : Addr} {o : O} (e : h a = some o) : put h a o = h := by
  funext b; unfold put; split
  · rename_i q; rw [q, e]
  · rfl
theorem del_put {h : Hq} {a : Addr} {o : O} (e : h a = none) : del (put h a o) a = h := by
  funext b; unfold del put; split
  · rename_i q; rw [q, e]
  · rfl
theorem ne_fresh {h : Hq} {a b : Addr} {o : O} (e : h a = some o) (n : h b = none) : a ≠ b := by
  intro q; rw [q, n] at e; cases e
theorem ne_fresh' {h : Hq} {a b : Addr} {o : O} (e : h a = some o) (n : h b = none) : b ≠ a := fun q => ne_fresh e n q.symm

def KL (K : PySem.W.Frag) (a : Addr) (xs : List V) : Prop :=
  ∃ (o : Obj) (its : Array Value) (n : Nat), K.lookup a = some o ∧ o.cls = .type "list" ∧ o.dict = none ∧ o.data = .seq its n ∧ its.size ≤ sizeLine ∧ Vals xs its.toList
def KT (K : PySem.W.Frag) (a : Addr) (xs : List V) : Prop :=
  ∃ (o : Obj) (its : Array Value) (n : Nat), K.lookup a = some o ∧ o.cls = .type "tuple" ∧ o.data = .seq its n ∧ its.size ≤ sizeLine ∧ Vals xs its.toList

/-- what nobody changes any more (s: told by trees; p: another's, not to be touched) -/
structure Fz where
  s : Addr → Prop
  p : Addr → Prop
def Fz.has (S : Fz) (a : Addr) : Prop := S.s a ∨ S.p a
mutual
inductive Rep (K : PySem.W.Frag) (S : Fz) (H : Hp) : V → T → Prop
  | non : Rep K S H .non .non
  | bl (b : Bool) : Rep K S H (.bl b) (.bl b)
  | int (i : Int) : Rep K S H (.int i) (.int i)
  | str (x : Str) : Rep K S H (.str x) (.str x)
  | tup {a : Addr} {vs : List V} {ts : List T} : S.s a → H a = some (.tup vs) → RepL K S H vs ts → Rep K S H (.ref a) (.tup ts)
  | tupK {a : Addr} {vs : List V} {ts : List T} : KT K a vs → RepL K S H vs ts → Rep K S H (.ref a) (.tup ts)
  | lst {a : Addr} {vs : List V} {ts : List T} : S.s a → H a = some (.lst vs) → RepL K S H vs ts → Rep K S H (.ref a) (.lst ts)
  | scr {a : Addr} {ns : List Int} : S.s a → Rd H a (.lst (ns.map V.int)) → Rep K S H (.ref a) (.scr ns)
  | scrK {a : Addr} {ns : List Int} : KL K a (ns.map V.int) → Rep K S H (.ref a) (.scr ns)
  | ins {a C dx : Addr} {fs : List (Str × V)} {gs : List (Str × T)} : S.s a → H a = some (.ins C dx fs) → RepF K S H fs gs → Rep K S H (.ref a) (.ins C gs)
  | ref (a : Addr) : Rep K S H (.ref a) (.ref a)
  | ty (n : String) : Rep K S H (.ty n) (.ty n)
  | exc {a dd : Addr} {cls : Value} {fs : List (Str × V)} {gs : List (Str × T)} : S.s dd → H dd = some (.xd fs) → RepF K S H fs gs → Rep K S H (.ref a) (.exc a cls (some dd) gs)
  | exc0 {a : Addr} {cls : Value} : Rep K S H (.ref a) (.exc a cls none [])
inductive RepL (K : PySem.W.Frag) (S : Fz) (H : Hp) : List V → List T → Prop
  | nil : RepL K S H [] []
  | cons {v : V} {vs : List V} {t : T} {ts : List T} : Rep K S H v t → RepL K S H vs ts → RepL K S H (v :: vs) (t :: ts)
inductive RepF (K : PySem.W.Frag) (S : Fz) (H : Hp) : List (Str × V) → List (Str × T) → Prop
  | nil : RepF K S H [] []
  | cons {f : Str} {v : V} {vs : List (Str × V)} {t : T} {ts : List (Str × T)} : Rep K S H v t → RepF K S H vs ts → RepF K S H ((f, v) :: vs) ((f, t) :: ts)
end

/-- later: what was frozen is frozen, and as it was -/
structure Fut (S : Fz) (H : Hp) (S1 : Fz) (H1 : Hp) : Prop where
  sub : ∀ a, S.s a → S1.s a
  kp : ∀ a, S.has a → H1 a = H a
  pe : S1.p = S.p
theorem Fut.refl {S : Fz} {H : Hp} : Fut S H S H := ⟨fun _ h => h, fun _ _ => rfl, rfl⟩
theorem Fut.trans {S S1 S2 : Fz} {H H1 H2 : Hp} (a : Fut S H S1 H1) (b : Fut S1 H1 S2 H2) : Fut S H S2 H2 :=
  ⟨fun x h => b.sub x (a.sub x h), fun x h => (b.kp x (h.elim (fun z => .inl (a.sub x z)) fun z => .inr (a.pe ▸ z))).trans (a.kp x h), b.pe.trans a.pe⟩
theorem Fut.rd {S S1 : Fz} {H H1 : Hp} (f : Fut S H S1 H1) {a : Addr} {u : HO} (s : S.s a) (h : Rd H a u) : Rd H1 a u := by
  unfold Rd at *; rw [f.kp a (.inl s)]; exact h
structure Fu (S : Fz) (H : Hp) (S1 : Fz) (H1 : Hp) : Prop where
  sub : ∀ a, S.s a → S1.s a
  kp : ∀ a, S.s a → H1 a = H a
theorem Fut.fu {S S1 : Fz} {H H1 : Hp} (f : Fut S H S1 H1) : Fu S H S1 H1 := ⟨f.sub, fun a s => f.kp a (.inl s)⟩
theorem Fu.trans {S S1 S2 : Fz} {H H1 H2 : Hp} (a : Fu S H S1 H1) (b : Fu S1 H1 S2 H2) : Fu S H S2 H2 := ⟨fun x h => b.sub x (a.sub x h), fun x h => (b.kp x (a.sub x h)).trans (a.kp x h)⟩
theorem Fu.rd {S S1 : Fz} {H H1 : Hp} (f : Fu S H S1 H1) {a : Addr} {u : HO} (s : S.s a) (h : Rd H a u) : Rd H1 a u := by
  unfold Rd at *; rw [f.kp a s]; exact h
section
variable {K : PySem.W.Frag} {S S1 : Fz} {H H1 : Hp}
mutual
theorem Rep.fu (f : Fu S H S1 H1) : ∀ {v : V} {t : T}, Rep K S H v t → Rep K S1 H1 v t
  | _, _, .non => .non
  | _, _, .bl b => .bl b
  | _, _, .int i => .int i
  | _, _, .str x => .str x
  | _, _, .tup s h r => .tup (f.sub _ s) ((f.kp _ s).trans h) (RepL.fu f r)
  | _, _, .tupK h r => .tupK h (RepL.fu f r)
  | _, _, .lst s h r => .lst (f.sub _ s) ((f.kp _ s).trans h) (RepL.fu f r)
  | _, _, .scr s h => .scr (f.sub _ s) (f.rd s h)
  | _, _, .scrK h => .scrK h
  | _, _, .ins s h r => .ins (f.sub _ s) ((f.kp _ s).trans h) (RepF.fu f r)
  | _, _, .ref a => .ref a
  | _, _, .ty n => .ty n
  | _, _, .exc s h r => .exc (f.sub _ s) ((f.kp _ s).trans h) (RepF.fu f r)
  | _, _, .exc0 => .exc0
theorem RepL.fu (f : Fu S H S1 H1) : ∀ {v : List V} {t : List T}, RepL K S H v t → RepL K S1 H1 v t
  | _, _, .nil => .nil
  | _, _, .cons r q => .cons (Rep.fu f r) (RepL.fu f q)
theorem RepF.fu (f : Fu S H S1 H1) : ∀ {v : List (Str × V)} {t : List (Str × T)}, RepF K S H v t → RepF K S1 H1 v t
  | _, _, .nil => .nil
  | _, _, .cons r q => .cons (Rep.fu f r) (RepF.fu f q)
end
theorem Rep.fut (f : Fut S H S1 H1) {v : V} {t : T} (r : Rep K S H v t) : Rep K S1 H1 v t := r.fu f.fu
theorem RepL.fut (f : Fut S H S1 H1) {v : List V} {t : List T} (r : RepL K S H v t) : RepL K S1 H1 v t := r.fu f.fu
theorem RepF.fut (f : Fut S H S1 H1) {v : List (Str × V)} {t : List (Str × T)} (r : RepF K S H v t) : RepF K S1 H1 v t := r.fu f.fu
mutual
theorem Rep.fut' (f : ∀ a, S.s a → S1.s a) : ∀ {v : V} {t : T}, Rep K S H v t → Rep K S1 H v t
  | _, _, .non => .non
  | _, _, .bl b => .bl b
  | _, _, .int i => .int i
  | _, _, .str x => .str x
  | _, _, .tup s h r => .tup (f _ s) h (RepL.fut' f r)
  | _, _, .tupK h r => .tupK h (RepL.fut' f r)
  | _, _, .lst s h r => .lst (f _ s) h (RepL.fut' f r)
  | _, _, .scr s h => .scr (f _ s) h
  | _, _, .scrK h => .scrK h
  | _, _, .ins s h r => .ins (f _ s) h (RepF.fut' f r)
  | _, _, .ref a => .ref a
  | _, _, .ty n => .ty n
  | _, _, .exc s h r => .exc (f _ s) h (RepF.fut' f r)
  | _, _, .exc0 => .exc0
theorem RepL.fut' (f : ∀ a, S.s a → S1.s a) : ∀ {v : List V} {t : List T}, RepL K S H v t → RepL K S1 H v t
  | _, _, .nil => .nil
  | _, _, .cons r q => .cons (Rep.fut' f r) (RepL.fut' f q)
theorem RepF.fut' (f : ∀ a, S.s a → S1.s a) : ∀ {v : List (Str × V)} {t : List (Str × T)}, RepF K S H v t → RepF K S1 H v t
  | _, _, .nil => .nil
  | _, _, .cons r q => .cons (Rep.fut' f r) (RepF.fut' f q)
end
theorem Rep.scr_sq {v : V} {ns : List Int} (r : Rep K S H v (.scr ns)) : ∃ a, v = .ref a ∧ SqL K H a (ns.map V.int) ∧ ∀ S1 H1, Fu S H S1 H1 → SqL K H1 a (ns.map V.int) := by
  cases r with
  | scr s h => exact ⟨_, rfl, .inl h, fun S1 H1 f => .inl (f.rd s h)⟩
  | scrK h => exact ⟨_, rfl, .inr h, fun S1 H1 f => .inr h⟩
theorem RepL.length : ∀ {v : List V} {t : List T}, RepL K S H v t → v.length = t.length
  | _, _, .nil => rfl
  | _, _, .cons _ q => congrArg (· + 1) (RepL.length q)
theorem RepL.get : ∀ {v : List V} {t : List T} {i : Nat} {y : T}, RepL K S H v t → t[i]? = some y → ∃ x, v[i]? = some x ∧ Rep K S H x y
  | _, _, _, _, .nil, e => by simp at e
  | _, _, 0, _, .cons r _, e => by simp at e; subst e; exact ⟨_, rfl, r⟩
  | _, _, i + 1, y, .cons _ q, e => by
    obtain ⟨x, h1, h2⟩ := RepL.get (i := i) (y := y) q (by simpa using e)
    exact ⟨x, by simpa using h1, h2⟩
theorem RepL.append : ∀ {v w : List V} {t u : List T}, RepL K S H v t → RepL K S H w u → RepL K S H (v ++ w) (t ++ u)
  | _, _, _, _, .nil, s => s
  | _, _, _, _, .cons r q, s => .cons r (RepL.append q s)
theorem RepL.take : ∀ (n : Nat) {v : List V} {t : List T}, RepL K S H v t → RepL K S H (v.take n) (t.take n)
  | 0, _, _, _ => .nil
  | _ + 1, _, _, .nil => .nil
  | n + 1, _, _, .cons r q => .cons r (RepL.take n q)
theorem RepL.drop : ∀ (n : Nat) {v : List V} {t : List T}, RepL K S H v t → RepL K S H (v.drop n) (t.drop n)
  | 0, _, _, r => r
  | _ + 1, _, _, .nil => .nil
  | n + 1, _, _, .cons _ q => RepL.drop n q
theorem RepL.set {x : V} {y : T} (r : Rep K S H x y) : ∀ (i : Nat) {v : List V} {t : List T}, RepL K S H v t → RepL K S H (v.set i x) (t.set i y)
  | _, _, _, .nil => .nil
  | 0, _, _, .cons _ q => .cons r q
  | i + 1, _, _, .cons p q => .cons p (RepL.set r i q)
theorem RepL.dropLast : ∀ {v : List V} {t : List T}, RepL K S H v t → RepL K S H v.dropLast t.dropLast
  | _, _, .nil => .nil
  | _, _, .cons r .nil => .nil
  | _, _, .cons r (.cons p q) => .cons r (RepL.dropLast (.cons p q))
theorem RepL.replicate (n : Nat) {v : List V} {t : List T} (r : RepL K S H v t) : RepL K S H (List.replicate n v).flatten (List.replicate n t).flatten := by
  induction n with
  | zero => exact .nil
  | succ n ih => rw [List.replicate_succ, List.replicate_succ, List.flatten_cons, List.flatten_cons]; exact r.append ih
theorem RepL.ints : ∀ {v : List V} {ns : List Int}, RepL K S H v (ns.map T.int) → v = ns.map V.int
  | _, [], .nil => rfl
  | _, n :: ns, .cons r q => by
    cases r
    rw [RepL.ints (ns := ns) q]
    rfl
theorem RepL.of_ints : ∀ (ns : List Int), RepL K S H (ns.map V.int) (ns.map T.int)
  | [] => .nil
  | n :: ns => .cons (.int n) (RepL.of_ints ns)
theorem RepL.bls : ∀ {v : List V} {ns : List Bool}, RepL K S H v (ns.map T.bl) → v = ns.map V.bl
  | _, [], .nil => rfl
  | _, n :: ns, .cons r q => by
    cases r
    rw [RepL.bls (ns := ns) q]
    rfl
end

def RepD {κ : Type} (K : PySem.W.Frag) (S : Fz) (H : Hp) (kvs : List (κ × V)) (gs : List (κ × T)) : Prop := kvs.map (·.1) = gs.map (·.1) ∧ RepL K S H (kvs.map (·.2)) (gs.map (·.2))
def RepO (K : PySem.W.Frag) (S : Fz) (H : Hp) (u : HO) : O → Prop
  | .lst ts => ∃ vs, u = .lst vs ∧ RepL K S H vs ts
  | .ins C gs => ∃ dx fs, u = .ins C dx fs ∧ RepF K S H fs gs
  | .pool => ∃ a b : Int, u = .lst [.int a, .int b] ∧ 0 ≤ a ∧ 0 ≤ b ∧ b < 2147483647
  | .dK gs => ∃ kvs, u = .dK kvs ∧ RepD K S H kvs gs
  | .dT gs => ∃ kvs, u = .dT kvs ∧ RepD K S H kvs gs
theorem RepO.fut {K : PySem.W.Frag} {S S1 : Fz} {H H1 : Hp} {u : HO} (f : Fut S H S1 H1) : ∀ {o : O}, RepO K S H u o → RepO K S1 H1 u o
  | .lst _, ⟨vs, e, r⟩ => ⟨vs, e, r.fut f⟩
  | .ins _ _, ⟨dx, fs, e, r⟩ => ⟨dx, fs, e, r.fut f⟩
  | .pool, r => r
  | .dK _, ⟨vs, e, r⟩ => ⟨vs, e, r.1, r.2.fut f⟩
  | .dT _, ⟨vs, e, r⟩ => ⟨vs, e, r.1, r.2.fut f⟩

theorem RepO.fut' {K : PySem.W.Frag} {S S1 : Fz} {H : Hp} {u : HO} (f : ∀ a, S.s a → S1.s a) : ∀ {o : O}, RepO K S H u o → RepO K S1 H u o
  | .lst _, ⟨vs, e, r⟩ => ⟨vs, e, r.fut' f⟩
  | .ins _ _, ⟨dx, fs, e, r⟩ => ⟨dx, fs, e, r.fut' f⟩
  | .pool, r => r
  | .dK _, ⟨vs, e, r⟩ => ⟨vs, e, r.1, r.2.fut' f⟩
  | .dT _, ⟨vs, e, r⟩ => ⟨vs, e, r.1, r.2.fut' f⟩

structure Sim (K : PySem.W.Frag) (S : Fz) (H : Hp) (h : Hq) : Prop where
  fr : ∀ a, S.has a → h a = none
  al : ∀ a, S.has a → H a ≠ none
  dj : ∀ a, S.s a → ¬ S.p a
  ob : ∀ a o, h a = some o → ∃ u, H a = some u ∧ RepO K S H u o
section
variable {K : PySem.W.Frag} {S : Fz} {H : Hp} {h : Hq}
theorem Sim.free (m : Sim K S H h) {p : Addr} (e : H p = none) : h p = none := by
  cases q : h p with
  | none => rfl
  | some o =>
    obtain ⟨u, r, _⟩ := m.ob p o q
    rw [e] at r; cases r
theorem Sim.nS (m : Sim K S H h) {p : Addr} (e : H p = none) : ¬ S.has p := fun s => m.al p s e
theorem Sim.nS' (m : Sim K S H h) {p : Addr} {o : O} (e : h p = some o) : ¬ S.has p := fun s => by
  rw [m.fr p s] at e; cases e
theorem neS {a p : Addr} (s : S.has a) (n : ¬ S.has p) : a ≠ p := fun e => n (e ▸ s)
theorem fut_upd {p : Addr} {u : HO} (n : ¬ S.has p) : Fut S H S (upd H p u) := ⟨fun _ s => s, fun a s => upd_ne (neS s n), rfl⟩
/-- a new followed object -/
theorem Sim.new (m : Sim K S H h) {p : Addr} {u : HO} {o : O} (e : H p = none) (r : RepO K S H u o) : Sim K S (upd H p u) (put h p o) where
  fr := fun a s => by rw [put_ne (neS s (m.nS e))]; exact m.fr a s
  al := fun a s => by rw [upd_ne (neS s (m.nS e))]; exact m.al a s
  dj := m.dj
  ob := fun a o' q => by
    have f : Fut S H S (upd H p u) := fut_upd (m.nS e)
    by_cases c : a = p
    · subst c; rw [put_same] at q; cases q; exact ⟨u, upd_same, r.fut f⟩
    · rw [put_ne c] at q
      obtain ⟨w, q1, q2⟩ := m.ob a o' q
      exact ⟨w, by rw [upd_ne c]; exact q1, q2.fut f⟩
/-- a followed object changed -/
theorem Sim.write (m : Sim K S H h) {p : Addr} {u : HO} {o o' : O} (e : h p = some o) (r : RepO K S H u o') : Sim K S (upd H p u) (put h p o') where
  fr := fun a s => by rw [put_ne (neS s (m.nS' e))]; exact m.fr a s
  al := fun a s => by rw [upd_ne (neS s (m.nS' e))]; exact m.al a s
  dj := m.dj
  ob := fun a o2 q => by
    have f : Fut S H S (upd H p u) := fut_upd (m.nS' e)
    by_cases c : a = p
    · subst c; rw [put_same] at q; cases q; exact ⟨u, upd_same, r.fut f⟩
    · rw [put_ne c] at q
      obtain ⟨w, q1, q2⟩ := m.ob a o2 q
      exact ⟨w, by rw [upd_ne c]; exact q1, q2.fut f⟩
/-- something that is not followed, nor frozen, is laid or changed -/
theorem Sim.side' (m : Sim K S H h) {p : Addr} {u : HO} (e : h p = none) (n : ¬ S.has p) : Sim K S (upd H p u) h where
  fr := m.fr
  al := fun a s => by rw [upd_ne (neS s n)]; exact m.al a s
  dj := m.dj
  ob := fun a o q => by
    obtain ⟨w, q1, q2⟩ := m.ob a o q
    exact ⟨w, by rw [upd_ne fun z => by rw [z, e] at q; cases q]; exact q1, q2.fut (fut_upd n)⟩
theorem Sim.side (m : Sim K S H h) {p : Addr} {u : HO} (e : H p = none) : Sim K S (upd H p u) h := m.side' (m.free e) (m.nS e)
/-- the set with one more -/
def plus (S : Fz) (p : Addr) : Fz := ⟨fun a => S.s a ∨ a = p, S.p⟩
def prot (S : Fz) (p : Addr) : Fz := ⟨S.s, fun a => S.p a ∨ a = p⟩
theorem fut_plus {p : Addr} {H1 : Hp} (f : Fut S H S H1) : Fut S H (plus S p) H1 := ⟨fun _ s => .inl s, f.kp, rfl⟩
theorem Sim.plus (m : Sim K S H h) {p : Addr} (e : h p = none) (n : H p ≠ none) (d : ¬ S.p p) : Sim K (plus S p) H h where
  fr := fun a s => by
    rcases s with (s | s) | s
    · exact m.fr a (.inl s)
    · rw [s]; exact e
    · exact m.fr a (.inr s)
  al := fun a s => by
    rcases s with (s | s) | s
    · exact m.al a (.inl s)
    · rw [s]; exact n
    · exact m.al a (.inr s)
  dj := fun a s => by
    rcases s with s | s
    · exact m.dj a s
    · rw [s]; exact d
  ob := fun a o q => by
    obtain ⟨w, q1, q2⟩ := m.ob a o q
    exact ⟨w, q1, q2.fut (fut_plus Fut.refl)⟩
/-- something new and frozen at once -/
theorem Sim.frozen (m : Sim K S H h) {p : Addr} {u : HO} (e : H p = none) : Sim K (TL.plus S p) (upd H p u) h ∧ Fut S H (TL.plus S p) (upd H p u) :=
  ⟨(m.side e).plus (m.free e) (by rw [upd_same]; exact fun z => nomatch z) (fun z => m.nS e (.inr z)), fut_plus (fut_upd (m.nS e))⟩
/-- forgetting what is followed -/
theorem Sim.sub (m : Sim K S H h) {h' : Hq} (e : ∀ a o, h' a = some o → h a = some o) : Sim K S H h' where
  fr := fun a s => by
    cases q : h' a with
    | none => rfl
    | some o => exact absurd (e a o q) (by rw [m.fr a s]; exact fun z => nomatch z)
  al := m.al
  dj := m.dj
  ob := fun a o q => m.ob a o (e a o q)
theorem Sim.del (m : Sim K S H h) {p : Addr} : Sim K S H (TL.del h p) := m.sub fun a o q => by
  unfold TL.del at q; split at q
  · cases q
  · exact q
/-- a followed object is frozen -/
theorem Sim.freeze (m : Sim K S H h) {p : Addr} {o : O} (e : h p = some o) : Sim K (TL.plus S p) H (TL.del h p) := by
  obtain ⟨u, q, _⟩ := m.ob p o e
  exact m.del.plus (by unfold TL.del; rw [if_pos rfl]) (by rw [q]; exact fun z => nomatch z) (fun z => m.nS' e (.inr z))
/-- protecting one more for a while -/
theorem Rep.noP {S1 : Fz} (e : S1.s = S.s) {v : V} {t : T} : Rep K S H v t → Rep K S1 H v t := fun r => r.fut' fun a s => by rw [e]; exact s
theorem Sim.prot (m : Sim K S H h) {p : Addr} (e : h p = none) (n : H p ≠ none) (d : ¬ S.s p) : Sim K (TL.prot S p) H h where
  fr := fun a s => by
    rcases s with s | s | s
    · exact m.fr a (.inl s)
    · exact m.fr a (.inr s)
    · rw [s]; exact e
  al := fun a s => by
    rcases s with s | s | s
    · exact m.al a (.inl s)
    · exact m.al a (.inr s)
    · rw [s]; exact n
  dj := fun a s z => by
    rcases z with z | z
    · exact m.dj a s z
    · exact d (z ▸ s)
  ob := fun a o q => by
    obtain ⟨w, q1, q2⟩ := m.ob a o q
    exact ⟨w, q1, RepO.fut' (S := S) (S1 := TL.prot S p) (fun _ s => s) q2⟩
/-- .. and no more: S1 is behind prot S p -/
def unp (S S1 : Fz) : Fz := ⟨S1.s, S.p⟩
theorem Sim.unp {S1 : Fz} {H1 : Hp} {h1 : Hq} (m : Sim K S1 H1 h1) {p : Addr} (e : S1.p = (TL.prot S p).p) : Sim K (TL.unp S S1) H1 h1 where
  fr := fun a s => m.fr a (s.elim .inl fun z => .inr (by rw [e]; exact .inl z))
  al := fun a s => m.al a (s.elim .inl fun z => .inr (by rw [e]; exact .inl z))
  dj := fun a s z => m.dj a s (by rw [e]; exact .inl z)
  ob := fun a o q => by
    obtain ⟨w, q1, q2⟩ := m.ob a o q
    exact ⟨w, q1, RepO.fut' (S := S1) (S1 := TL.unp S S1) (fun _ s => s) q2⟩
theorem Fut.unp {S1 : Fz} {H1 : Hp} {p : Addr} (f : Fut (TL.prot S p) H S1 H1) : Fut S H (TL.unp S S1) H1 := ⟨fun a s => f.sub a s, fun a s => f.kp a (s.elim .inl fun z => .inr (.inl z)), rfl⟩
end

abbrev Sl := List (Option T)
structure RepS (K : PySem.W.Frag) (S : Fz) (H : Hp) (σ : L2.St) (s : Sl) : Prop where
  len : σ.length = s.length
  at_ : ∀ (i : Nat) t, s[i]? = some (some t) → ∃ v, σ[i]? = some (some v) ∧ Rep K S H v t
section
variable {K : PySem.W.Frag} {S S1 : Fz} {H H1 : Hp} {σ : L2.St} {s : Sl}
theorem RepS.fut (f : Fut S H S1 H1) (r : RepS K S H σ s) : RepS K S1 H1 σ s := ⟨r.len, fun i t e => by
  obtain ⟨v, h1, h2⟩ := r.at_ i t e
  exact ⟨v, h1, h2.fut f⟩⟩
theorem RepS.fu (f : Fu S H S1 H1) (r : RepS K S H σ s) : RepS K S1 H1 σ s := ⟨r.len, fun i t e => by
  obtain ⟨v, h1, h2⟩ := r.at_ i t e
  exact ⟨v, h1, h2.fu f⟩⟩
theorem RepS.set (r : RepS K S H σ s) {v : V} {t : T} (q : Rep K S H v t) (i : Nat) : RepS K S H (σ.set i (some v)) (s.set i (some t)) := ⟨by simp [r.len], fun j u e => by
  by_cases c : i = j
  · subst c
    have hl : i < s.length := by
      have := (List.getElem?_eq_some_iff.mp e).1
      simpa using this
    rw [List.getElem?_set_self hl] at e
    cases e
    exact ⟨v, by rw [List.getElem?_set_self (by rw [r.len]; exact hl)], q⟩
  · rw [List.getElem?_set_ne c] at e
    obtain ⟨w, h1, h2⟩ := r.at_ j u e
    exact ⟨w, by rw [List.getElem?_set_ne c]; exact h1, h2⟩⟩
theorem RepS.start {N : List Str} : ∀ {vs : List V} {ts : List T}, RepL K S H vs ts → vs.length ≤ N.length → RepS K S H (L2.start N vs) (ts.map some ++ List.replicate (N.length - ts.length) none) := fun {vs ts} r hl => by
  have e := r.length
  refine ⟨by simp [L2.start, e], fun i t q => ?_⟩
  by_cases c : i < ts.length
  · rw [List.getElem?_append_left (by simpa using c), List.getElem?_map] at q
    cases z : ts[i]? with
    | none => rw [z] at q; cases q
    | some y =>
      rw [z] at q
      cases q
      obtain ⟨x, h1, h2⟩ := r.get z
      refine ⟨x, ?_, h2⟩
      unfold L2.start
      rw [List.getElem?_append_left (by simpa [e] using c), List.getElem?_map, h1]
      rfl
  · rw [List.getElem?_append_right (by simpa using c), List.getElem?_replicate] at q
    split at q
    · cases q
    · cases q
theorem RepS.fut' (f : ∀ a, S.s a → S1.s a) (r : RepS K S H σ s) : RepS K S1 H σ s := ⟨r.len, fun i t e => by
  obtain ⟨v, h1, h2⟩ := r.at_ i t e
  exact ⟨v, h1, h2.fut' f⟩⟩
end
end TL

namespace TL
open PySem L2

structure Ex where
  cls : Value
  fs : List (Str × T)
abbrev EX := Ex → Sl → Hq → Prop
abbrev TK := T → Hq → Prop
abbrev EM := Sl → Hq → TK → EX → Prop
abbrev TM := Sl → Hq → (Bool → Hq → Prop) → EX → Prop
abbrev AM := Sl → Hq → (List T → Hq → Prop) → EX → Prop
abbrev OM := Sl → Hq → (Option Int → Hq → Prop) → EX → Prop
abbrev SK := Sl → Hq → Prop
abbrev GM := T → Sl → Hq → SK → EX → Prop
abbrev GMs := List T → Sl → Hq → SK → EX → Prop
/-- what is walked: its items, and what must stand meanwhile -/
abbrev IM := Sl → Hq → (List T → (Hq → Prop) → Hq → Prop) → EX → Prop
structure En where
  nx : SK
  rt : TK
  bk : SK := fun _ _ => False
  ct : SK := fun _ _ => False
  ex : EX := fun _ _ _ => False
abbrev SM := En → Sl → Hq → Prop
/-- what a def is worth -/
abbrev Con := List T → Hq → TK → (Ex → Hq → Prop) → Prop

def RepX (K : PySem.W.Frag) (S : Fz) (H : Hp) (cls : Value) (d : Option Addr) (x : Ex) : Prop :=
  cls = x.cls ∧ ((d = none ∧ x.fs = []) ∨ ∃ dd fs, d = some dd ∧ S.s dd ∧ H dd = some (.xd fs) ∧ RepF K S H fs x.fs)

def LkX (K : PySem.W.Frag) (W : WX) (S : Fz) (H : Hp) (E : EX) : Prop := ∀ S1 H1 h1 σ1 s1 x cls d, Fut S H S1 H1 → Sim K S1 H1 h1 → RepS K S1 H1 σ1 s1 → RepX K S1 H1 cls d x → E x s1 h1 → W cls d σ1 H1
def PK (K : PySem.W.Frag) (S : Fz) (H : Hp) (Q : TK) (Q' : VK) : Prop := ∀ S1 H1 h1 v u, Fut S H S1 H1 → Sim K S1 H1 h1 → Rep K S1 H1 v u → Q u h1 → Q' v H1
def PB (K : PySem.W.Frag) (S : Fz) (H : Hp) (Q : Bool → Hq → Prop) (Q' : Bool → Hp → Prop) : Prop := ∀ S1 H1 h1 b, Fut S H S1 H1 → Sim K S1 H1 h1 → Q b h1 → Q' b H1
def PL (K : PySem.W.Frag) (S : Fz) (H : Hp) (Q : List T → Hq → Prop) (Q' : List V → Hp → Prop) : Prop := ∀ S1 H1 h1 v u, Fut S H S1 H1 → Sim K S1 H1 h1 → RepL K S1 H1 v u → Q u h1 → Q' v H1
def PSl (K : PySem.W.Frag) (S : Fz) (H : Hp) (Q : SK) (Q' : L2.St → Hp → Prop) : Prop := ∀ S1 H1 h1 σ s, Fut S H S1 H1 → Sim K S1 H1 h1 → RepS K S1 H1 σ s → Q s h1 → Q' σ H1
structure LkD (K : PySem.W.Frag) (W : WX) (S : Fz) (H : Hp) (D : En) (D' : Ends) : Prop where
  nx : PSl K S H D.nx D'.nx
  rt : PK K S H D.rt D'.rt
  bk : PSl K S H D.bk D'.bk
  ct : PSl K S H D.ct D'.ct
  ex : LkX K W S H D.ex
section
variable {K : PySem.W.Frag} {W : WX} {S S1 : Fz} {H H1 : Hp}
theorem LkX.fut {E : EX} (l : LkX K W S H E) (f : Fut S H S1 H1) : LkX K W S1 H1 E := fun S2 H2 h2 σ s x c d g => l S2 H2 h2 σ s x c d (f.trans g)
theorem PK.fut {Q : TK} {Q' : VK} (l : PK K S H Q Q') (f : Fut S H S1 H1) : PK K S1 H1 Q Q' := fun S2 H2 h2 v u g => l S2 H2 h2 v u (f.trans g)
theorem PB.fut {Q : Bool → Hq → Prop} {Q' : Bool → Hp → Prop} (l : PB K S H Q Q') (f : Fut S H S1 H1) : PB K S1 H1 Q Q' := fun S2 H2 h2 v g => l S2 H2 h2 v (f.trans g)
theorem PL.fut {Q : List T → Hq → Prop} {Q' : List V → Hp → Prop} (l : PL K S H Q Q') (f : Fut S H S1 H1) : PL K S1 H1 Q Q' := fun S2 H2 h2 v u g => l S2 H2 h2 v u (f.trans g)
theorem PSl.fut {Q : SK} {Q' : L2.St → Hp → Prop} (l : PSl K S H Q Q') (f : Fut S H S1 H1) : PSl K S1 H1 Q Q' := fun S2 H2 h2 v u g => l S2 H2 h2 v u (f.trans g)
theorem LkD.fut {D : En} {D' : Ends} (l : LkD K W S H D D') (f : Fut S H S1 H1) : LkD K W S1 H1 D D' := ⟨l.nx.fut f, l.rt.fut f, l.bk.fut f, l.ct.fut f, l.ex.fut f⟩
end

def liftE (K : PySem.W.Frag) (W : WX) (m : EM) : TE := fun σ H Q' => ∃ S h s Q E, Sim K S H h ∧ RepS K S H σ s ∧ LkX K W S H E ∧ m s h Q E ∧ PK K S H Q Q'
def liftT (K : PySem.W.Frag) (W : WX) (m : TM) : TT := fun σ H Q' => ∃ S h s Q E, Sim K S H h ∧ RepS K S H σ s ∧ LkX K W S H E ∧ m s h Q E ∧ PB K S H Q Q'
def liftA (K : PySem.W.Frag) (W : WX) (m : AM) : TA := fun σ H Q' => ∃ S h s Q E, Sim K S H h ∧ RepS K S H σ s ∧ LkX K W S H E ∧ m s h Q E ∧ PL K S H Q Q'
def liftO (K : PySem.W.Frag) (W : WX) (m : OM) : TO := fun σ H Q' => ∃ S h s Q E, Sim K S H h ∧ RepS K S H σ s ∧ LkX K W S H E ∧ m s h Q E ∧ ∀ S1 H1 h1 o, Fut S H S1 H1 → Sim K S1 H1 h1 → Q o h1 → Q' o H1
def liftS (K : PySem.W.Frag) (W : WX) (m : SM) : TS := fun D' σ H => ∃ S h s D, Sim K S H h ∧ RepS K S H σ s ∧ LkD K W S H D D' ∧ m D s h
def liftG (K : PySem.W.Frag) (W : WX) (m : GM) : TG := fun v σ H Q' => ∃ S h s t Q E, Sim K S H h ∧ RepS K S H σ s ∧ Rep K S H v t ∧ LkX K W S H E ∧ m t s h Q E ∧ PSl K S H Q Q'
def liftGs (K : PySem.W.Frag) (W : WX) (m : GMs) : TGs := fun v σ H Q' => ∃ S h s t Q E, Sim K S H h ∧ RepS K S H σ s ∧ RepL K S H v t ∧ LkX K W S H E ∧ m t s h Q E ∧ PSl K S H Q Q'
def ItRep (K : PySem.W.Frag) (S : Fz) (H : Hp) (J : It) (ts : List T) (stay : Hq → Prop) : Prop := ∀ S1 H1 h1, Fu S H S1 H1 → Sim K S1 H1 h1 → stay h1 →
  (∀ (i : Nat) t, ts[i]? = some t → J.go i H1 ∧ ∀ x H2, J.yld i H1 x H2 → ∃ S2, Fut S1 H1 S2 H2 ∧ Sim K S2 H2 h1 ∧ Rep K S2 H2 x t) ∧ J.stop ts.length H1
def liftI (K : PySem.W.Frag) (W : WX) (m : IM) : TI := fun σ H R => ∃ S h s Q E, Sim K S H h ∧ RepS K S H σ s ∧ LkX K W S H E ∧ m s h Q E ∧ ∀ S1 H1 h1 J ts stay, Fut S H S1 H1 → Sim K S1 H1 h1 → ItRep K S1 H1 J ts stay → Q ts stay h1 → R J H1

def JE (X : Cx) (W : WX) (e : Expr) (m : EM) : Prop := PE X e (liftE X.K W m)
def JT (X : Cx) (W : WX) (e : Expr) (m : TM) : Prop := PT X e (liftT X.K W m)
def JW (X : Cx) (W : WX) (e : Expr) (m : TM) : Prop := PW X e (liftT X.K W m)
def JA (X : Cx) (W : WX) (es : List Expr) (m : AM) : Prop := PA X es (liftA X.K W m)
def JO (X : Cx) (W : WX) (e : Option Expr) (m : OM) : Prop := PO X e (liftO X.K W m)
def JS (X : Cx) (W : WX) (st : Stmt) (m : SM) : Prop := PS X st (liftS X.K W m)
def JSs (X : Cx) (W : WX) (st : List Stmt) (m : SM) : Prop := PSs X st (liftS X.K W m)
def JG (X : Cx) (W : WX) (e : Expr) (m : GM) : Prop := PG X e (liftG X.K W m)
def JGs (X : Cx) (W : WX) (e : List Expr) (m : GMs) : Prop := PGs X e (liftGs X.K W m)
def JI (X : Cx) (W : WX) (tg e : Expr) (m : IM) : Prop := PI X tg e (liftI X.K W m)

section
variable {X : Cx} {W : WX}
theorem _root_.L2.PE.wk {e : Expr} {t t' : TE} (p : PE X e t) (h : ∀ σ H Q, t' σ H Q → t σ H Q) : PE X e t' := ⟨fun pins s σ H Q I w => p.run pins s σ H Q I (h σ H Q w)⟩
theorem _root_.L2.PT.wk {e : Expr} {t t' : TT} (p : PT X e t) (h : ∀ σ H Q, t' σ H Q → t σ H Q) : PT X e t' := ⟨fun pins s σ H Q I w => p.run pins s σ H Q I (h σ H Q w)⟩
theorem _root_.L2.PW.wk {e : Expr} {t t' : TT} (p : PW X e t) (h : ∀ σ H Q, t' σ H Q → t σ H Q) : PW X e t' := ⟨fun wh pins s σ H Q I w => p.run wh pins s σ H Q I (h σ H Q w)⟩
theorem _root_.L2.PA.wk {e : List Expr} {t t' : TA} (p : PA X e t) (h : ∀ σ H Q, t' σ H Q → t σ H Q) : PA X e t' := ⟨fun pos pins s σ H Q I w => p.run pos pins s σ H Q I (h σ H Q w)⟩
theorem _root_.L2.PO.wk {e : Option Expr} {t t' : TO} (p : PO X e t) (h : ∀ σ H Q, t' σ H Q → t σ H Q) : PO X e t' := ⟨fun pins s σ H Q I w => p.run pins s σ H Q I (h σ H Q w)⟩
theorem _root_.L2.PS.wk {e : Stmt} {t t' : TS} (p : PS X e t) (h : ∀ D σ H, t' D σ H → t D σ H) : PS X e t' := ⟨fun pins s σ H D I w => p.run pins s σ H D I (h D σ H w)⟩
theorem _root_.L2.PSs.wk {e : List Stmt} {t t' : TS} (p : PSs X e t) (h : ∀ D σ H, t' D σ H → t D σ H) : PSs X e t' := ⟨fun pins s σ H D I w => p.run pins s σ H D I (h D σ H w)⟩
theorem _root_.L2.PG.wk {e : Expr} {t t' : TG} (p : PG X e t) (h : ∀ v σ H Q, t' v σ H Q → t v σ H Q) : PG X e t' := ⟨fun pins s σ H v u Q I r w => p.run pins s σ H v u Q I r (h v σ H Q w)⟩
theorem _root_.L2.PGs.wk {e : List Expr} {t t' : TGs} (p : PGs X e t) (h : ∀ v σ H Q, t' v σ H Q → t v σ H Q) : PGs X e t' := ⟨fun pins s σ H v u Q I r w => p.run pins s σ H v u Q I r (h v σ H Q w)⟩
theorem _root_.L2.PI.wk {tg e : Expr} {t t' : TI} (p : PI X tg e t) (h : ∀ σ H Q, t' σ H Q → t σ H Q) : PI X tg e t' := ⟨fun pins s σ H Q I w => p.run pins s σ H Q I (h σ H Q w)⟩

/-! ### names and constants -/
def eVar (i : Nat) : EM := fun s h Q _ => match s[i]? with
  | some (some t) => Q t h
  | _ => False
def eC (t : T) : EM := fun _ h Q _ => Q t h
theorem j_var (i : Nat) {x : Str} {pos : Pos} (hN : X.N[i]? = some x := by rfl) (hv : Vis X.env.scope x := by first | exact Or.inl rfl | exact Or.inr (Or.inl rfl) | exact Or.inr (Or.inr rfl)) (hd : (x == ("__debug__" : Str)) = false := by decide)
    (hcd : (x == ("__classdict__" : Str)) = false := by decide) : JE X W (.Name x pos) (eVar i) := (pe_var hN hv hd hcd).wk fun σ H Q' ⟨S, h, s, Q, E, m, rs, lk, hm, pk⟩ => by
  unfold eVar at hm
  split at hm
  · rename_i t e
    obtain ⟨v, e1, r⟩ := rs.at_ i t e
    exact ⟨v, e1, pk S H h v t Fut.refl m r hm⟩
  · exact hm.elim
theorem j_c {e : Expr} {v : V} {t : T} (p : PE X e (tC v)) (r : ∀ S H, Rep X.K S H v t) : JE X W e (eC t) := p.wk fun σ H Q' ⟨S, h, s, Q, E, m, rs, lk, hm, pk⟩ => pk S H h v t Fut.refl m (r S H) hm
theorem j_int {i j pos} : JE X W (.Constant (.int i) j pos) (eC (.int i)) := j_c pe_int fun _ _ => .int i
theorem j_bl {b j pos} : JE X W (.Constant (.bool b) j pos) (eC (.bl b)) := j_c pe_bl fun _ _ => .bl b
theorem j_non {j pos} : JE X W (.Constant .none j pos) (eC .non) := j_c pe_non fun _ _ => .non
theorem j_str {x j pos} : JE X W (.Constant (.str x) j pos) (eC (.str x)) := j_c pe_str fun _ _ => .str x
theorem j_globI {x : Str} {i : Int} {t : Tok} {pos : Pos} (hg : Gl X x) (hm : X.mg x = some (.int i t)) (hd : (x == ("__debug__" : Str)) = false := by decide) : JE X W (.Name x pos) (eC (.int i)) := j_c (v := .int i) (pe_glob hg hm ⟨t, rfl⟩ hd) fun _ _ => .int i
theorem j_globR {x : Str} {a : Addr} {pos : Pos} (hg : Gl X x) (hm : X.mg x = some (.ref a)) (hd : (x == ("__debug__" : Str)) = false := by decide) : JE X W (.Name x pos) (eC (.ref a)) := j_c (v := .ref a) (pe_glob hg hm rfl hd) fun _ _ => .ref a
theorem j_globS {x : Str} {z : Str} {t : Tok} {pos : Pos} (hg : Gl X x) (hm : X.mg x = some (.str z t)) (hd : (x == ("__debug__" : Str)) = false := by decide) : JE X W (.Name x pos) (eC (.str z)) := j_c (v := .str z) (pe_glob hg hm ⟨t, rfl⟩ hd) fun _ _ => .str z
theorem j_ty {x : Str} {n : String} {pos : Pos} (hg : Gl X x) (hm : X.mg x = none) (hv : bootBuiltins x = some (.type n)) (hn : x ≠ "__name__" := by decide) (hd : (x == ("__debug__" : Str)) = false := by decide) : JE X W (.Name x pos) (eC (.ty n)) := j_c (v := .ty n) (pe_bltn hg hm hv rfl hn hd) fun _ _ => .ty n

/-! ### two-place operations on values -/
abbrev R2T := T → T → Hq → TK → Prop
def OP (K : PySem.W.Frag) (r : R2) (o : R2T) : Prop := ∀ S H h v w x y Q Q', Sim K S H h → Rep K S H v x → Rep K S H w y → o x y h Q → PK K S H Q Q' → r v w H Q'
def eOp (o : R2T) (a b : EM) : EM := fun s h Q E => a s h (fun x h1 => b s h1 (fun y h2 => o x y h2 Q) E) E
theorem lift_op {K : PySem.W.Frag} {r : R2} {o : R2T} {a b : EM} (op : OP K r o) : ∀ σ H Q, liftE K W (eOp o a b) σ H Q → tOp r (liftE K W a) (liftE K W b) σ H Q := fun σ H Q' ⟨S, h, s, Q, E, m, rs, lk, hm, pk⟩ =>
  ⟨S, h, s, _, E, m, rs, lk, hm, fun S1 H1 h1 v x f1 m1 r1 q1 => ⟨S1, h1, s, _, E, m1, rs.fut f1, lk.fut f1, q1, fun S2 H2 h2 w y f2 m2 r2 q2 => op S2 H2 h2 v w x y Q Q' m2 (r1.fut f2) r2 q2 (pk.fut (f1.trans f2))⟩⟩
theorem j_op {a b : Expr} {ma mb : EM} {op : Operator} {r : R2} {o : R2T} {pos : Pos} (ho : OpR X (binaryOp op) r) (p : OP X.K r o) (ha : JE X W a ma) (hb : JE X W b mb) : JE X W (.BinOp a op b pos) (eOp o ma mb) := PE.wk (pe_op ho ha hb) (lift_op p)
theorem j_cmp {a b : Expr} {ma mb : EM} {op : CmpOp} {r : R2} {o : R2T} {pos : Pos} (ho : OpR X (compareOp op) r) (p : OP X.K r o) (ha : JE X W a ma) (hb : JE X W b mb) (hm : behindInMarks op b = false) : JE X W (.Compare a [op] [b] pos) (eOp o ma mb) := PE.wk (pe_cmpR ho ha hb hm) (lift_op p)
/-- a comparison as a test -/
def tOf (m : EM) : TM := fun s h Q E => m s h (fun x h1 => match x with
  | .bl b => Q b h1
  | _ => False) E
theorem lift_test {K : PySem.W.Frag} {m : EM} : ∀ σ H Q, liftT K W (tOf m) σ H Q → tTest (liftE K W m) σ H Q := fun σ H Q' ⟨S, h, s, Q, E, m, rs, lk, hm, pk⟩ =>
  ⟨S, h, s, _, E, m, rs, lk, hm, fun S1 H1 h1 v x f1 m1 r1 q1 => by
    split at q1
    · cases r1; exact ⟨_, rfl, pk S1 H1 h1 _ f1 m1 q1⟩
    · exact q1.elim⟩
theorem tTest_mono {t t' : TE} (h : ∀ σ H Q, t' σ H Q → t σ H Q) : ∀ σ H Q, tTest t' σ H Q → tTest t σ H Q := fun σ H _ q => h σ H _ q
theorem jt_cmp {a b : Expr} {ma mb : EM} {op : CmpOp} {r : R2} {o : R2T} {pos : Pos} (ho : OpR X (compareOp op) r) (p : OP X.K r o) (ha : JE X W a ma) (hb : JE X W b mb) (hm : behindInMarks op b = false) : JT X W (.Compare a [op] [b] pos) (tOf (eOp o ma mb)) :=
  PT.wk (pt_cmpR ho ha hb hm) fun σ H Q q => tTest_mono (lift_op p) σ H Q (lift_test σ H Q q)
/-- a < b < c -/
def eChain (o o' : R2T) (a b c : EM) : EM := fun s h Q E => a s h (fun x h1 => b s h1 (fun y h2 => o x y h2 fun z h3 => match z with
  | .bl true => c s h3 (fun w h4 => o' y w h4 Q) E
  | .bl false => Q (.bl false) h3
  | _ => False) E) E
theorem lift_chain {K : PySem.W.Frag} {r r' : R2} {o o' : R2T} {a b c : EM} (op : OP K r o) (op' : OP K r' o') : ∀ σ H Q, liftE K W (eChain o o' a b c) σ H Q → tChain r r' (liftE K W a) (liftE K W b) (liftE K W c) σ H Q := fun σ H Q' ⟨S, h, s, Q, E, m, rs, lk, hm, pk⟩ =>
  ⟨S, h, s, _, E, m, rs, lk, hm, fun S1 H1 h1 v x f1 m1 r1 q1 => ⟨S1, h1, s, _, E, m1, rs.fut f1, lk.fut f1, q1, fun S2 H2 h2 w y f2 m2 r2 q2 =>
    op S2 H2 h2 v w x y _ _ m2 (r1.fut f2) r2 q2 fun S3 H3 h3 z' z f3 m3 r3 q3 => by
      split at q3
      · cases r3
        refine ⟨true, rfl, ?_⟩
        rw [if_pos rfl]
        exact ⟨S3, h3, s, _, E, m3, rs.fut ((f1.trans f2).trans f3), lk.fut ((f1.trans f2).trans f3), q3, fun S4 H4 h4 w' u f4 m4 r4 q4 => op' S4 H4 h4 w w' y u Q Q' m4 (r2.fut (f3.trans f4)) r4 q4 (pk.fut (((f1.trans f2).trans f3).trans f4))⟩
      · cases r3
        refine ⟨false, rfl, ?_⟩
        rw [if_neg Bool.false_ne_true]
        exact pk S3 H3 h3 _ _ ((f1.trans f2).trans f3) m3 (.bl false) q3
      · exact q3.elim⟩⟩
theorem j_chain {a b c : Expr} {ma mb mc : EM} {op op' : CmpOp} {r r' : R2} {o o' : R2T} {pos : Pos} (ho : OpR X (compareOp op) r) (p : OP X.K r o) (ho' : OpR X (compareOp op') r') (p' : OP X.K r' o') (ha : JE X W a ma) (hb : JE X W b mb) (hc : JE X W c mc) (hl : lastMarks [op, op'] [b, c] = false := by rfl) :
    JE X W (.Compare a [op, op'] [b, c] pos) (eChain o o' ma mb mc) := PE.wk (pe_chain ho ho' ha hb hc hl) (lift_chain p p')
theorem jt_chain {a b c : Expr} {ma mb mc : EM} {op op' : CmpOp} {r r' : R2} {o o' : R2T} {pos : Pos} (ho : OpR X (compareOp op) r) (p : OP X.K r o) (ho' : OpR X (compareOp op') r') (p' : OP X.K r' o') (ha : JE X W a ma) (hb : JE X W b mb) (hc : JE X W c mc) (hl : lastMarks [op, op'] [b, c] = false := by rfl) :
    JT X W (.Compare a [op, op'] [b, c] pos) (tOf (eChain o o' ma mb mc)) := PT.wk (pt_chain ho ho' ha hb hc hl) fun σ H Q q => tTest_mono (lift_chain p p') σ H Q (lift_test σ H Q q)

/-! ### and, or, not, if-else -/
def tAndM (a b : TM) : TM := fun s h Q E => a s h (fun c h1 => if c = true then b s h1 Q E else Q false h1) E
def tOrM (a b : TM) : TM := fun s h Q E => a s h (fun c h1 => if c = true then Q true h1 else b s h1 Q E) E
def tNotM (a : TM) : TM := fun s h Q E => a s h (fun c h1 => Q (!c) h1) E
theorem jw_and1 {a : Expr} {m : TM} {pos : Pos} (h : JT X W a m) : JW X W (.BoolOp .And [a] pos) m := pw_and1 h
theorem jw_or1 {a : Expr} {m : TM} {pos : Pos} (h : JT X W a m) : JW X W (.BoolOp .Or [a] pos) m := pw_or1 h
theorem jw_and {a b : Expr} {rest : List Expr} {ma mb : TM} {pos : Pos} (ha : JT X W a ma) (hb : JW X W (.BoolOp .And (b :: rest) pos) mb) : JW X W (.BoolOp .And (a :: b :: rest) pos) (tAndM ma mb) := PW.wk (pw_and ha hb) fun σ H Q' ⟨S, h, s, Q, E, m, rs, lk, hm, pk⟩ =>
  ⟨S, h, s, _, E, m, rs, lk, hm, fun S1 H1 h1 c f1 m1 q1 => by
    cases c with
    | true => rw [if_pos rfl] at q1 ⊢; exact ⟨S1, h1, s, Q, E, m1, rs.fut f1, lk.fut f1, q1, pk.fut f1⟩
    | false => rw [if_neg Bool.false_ne_true] at q1 ⊢; exact pk S1 H1 h1 _ f1 m1 q1⟩
theorem jw_or {a b : Expr} {rest : List Expr} {ma mb : TM} {pos : Pos} (ha : JT X W a ma) (hb : JW X W (.BoolOp .Or (b :: rest) pos) mb) : JW X W (.BoolOp .Or (a :: b :: rest) pos) (tOrM ma mb) := PW.wk (pw_or ha hb) fun σ H Q' ⟨S, h, s, Q, E, m, rs, lk, hm, pk⟩ =>
  ⟨S, h, s, _, E, m, rs, lk, hm, fun S1 H1 h1 c f1 m1 q1 => by
    cases c with
    | false => rw [if_neg Bool.false_ne_true] at q1 ⊢; exact ⟨S1, h1, s, Q, E, m1, rs.fut f1, lk.fut f1, q1, pk.fut f1⟩
    | true => rw [if_pos rfl] at q1 ⊢; exact pk S1 H1 h1 _ f1 m1 q1⟩
theorem jt_w {e : Expr} {m : TM} (h : JW X W e m) : JT X W e m := PW.pt h
theorem jt_not {a : Expr} {m : TM} {pos : Pos} (h : JT X W a m) : JT X W (.UnaryOp .Not a pos) (tNotM m) := PT.wk (pt_not h) fun σ H Q' ⟨S, h, s, Q, E, m, rs, lk, hm, pk⟩ =>
  ⟨S, h, s, _, E, m, rs, lk, hm, fun S1 H1 h1 c f1 m1 q1 => pk S1 H1 h1 _ f1 m1 q1⟩
def eAndV (a b : EM) : EM := fun s h Q E => a s h (fun x h1 => match x with
  | .bl true => b s h1 Q E
  | .bl false => Q (.bl false) h1
  | _ => False) E
def eOrV (a b : EM) : EM := fun s h Q E => a s h (fun x h1 => match x with
  | .bl true => Q (.bl true) h1
  | .bl false => b s h1 Q E
  | _ => False) E
def eNotV (a : EM) : EM := fun s h Q E => a s h (fun x h1 => match x with
  | .bl c => Q (.bl (!c)) h1
  | _ => False) E
theorem j_one {op : BoolOp} {a : Expr} {m : EM} {pos : Pos} (h : JE X W a m) : JE X W (.BoolOp op [a] pos) m := pe_one h
theorem j_and {a b : Expr} {rest : List Expr} {ma mb : EM} {pos : Pos} (ha : JE X W a ma) (hb : JE X W (.BoolOp .And (b :: rest) pos) mb) : JE X W (.BoolOp .And (a :: b :: rest) pos) (eAndV ma mb) := PE.wk (pe_and ha hb) fun σ H Q' ⟨S, h, s, Q, E, m, rs, lk, hm, pk⟩ =>
  ⟨S, h, s, _, E, m, rs, lk, hm, fun S1 H1 h1 v x f1 m1 r1 q1 => by
    split at q1
    · cases r1; refine ⟨true, rfl, ?_⟩; rw [if_pos rfl]; exact ⟨S1, h1, s, Q, E, m1, rs.fut f1, lk.fut f1, q1, pk.fut f1⟩
    · cases r1; refine ⟨false, rfl, ?_⟩; rw [if_neg Bool.false_ne_true]; exact pk S1 H1 h1 _ _ f1 m1 (.bl false) q1
    · exact q1.elim⟩
theorem j_or {a b : Expr} {rest : List Expr} {ma mb : EM} {pos : Pos} (ha : JE X W a ma) (hb : JE X W (.BoolOp .Or (b :: rest) pos) mb) : JE X W (.BoolOp .Or (a :: b :: rest) pos) (eOrV ma mb) := PE.wk (pe_or ha hb) fun σ H Q' ⟨S, h, s, Q, E, m, rs, lk, hm, pk⟩ =>
  ⟨S, h, s, _, E, m, rs, lk, hm, fun S1 H1 h1 v x f1 m1 r1 q1 => by
    split at q1
    · cases r1; refine ⟨true, rfl, ?_⟩; rw [if_pos rfl]; exact pk S1 H1 h1 _ _ f1 m1 (.bl true) q1
    · cases r1; refine ⟨false, rfl, ?_⟩; rw [if_neg Bool.false_ne_true]; exact ⟨S1, h1, s, Q, E, m1, rs.fut f1, lk.fut f1, q1, pk.fut f1⟩
    · exact q1.elim⟩
theorem j_not {a : Expr} {ma : EM} {pos : Pos} (ha : JE X W a ma) : JE X W (.UnaryOp .Not a pos) (eNotV ma) := PE.wk (pe_not ha) fun σ H Q' ⟨S, h, s, Q, E, m, rs, lk, hm, pk⟩ =>
  ⟨S, h, s, _, E, m, rs, lk, hm, fun S1 H1 h1 v x f1 m1 r1 q1 => by
    split at q1
    · cases r1; exact ⟨_, rfl, pk S1 H1 h1 _ _ f1 m1 (.bl _) q1⟩
    · exact q1.elim⟩
def eIf (c : TM) (a b : EM) : EM := fun s h Q E => c s h (fun d h1 => if d = true then a s h1 Q E else b s h1 Q E) E
theorem j_if {c a b : Expr} {mc : TM} {ma mb : EM} {pos : Pos} (hc : JT X W c mc) (ha : JE X W a ma) (hb : JE X W b mb) : JE X W (.IfExp c a b pos) (eIf mc ma mb) := PE.wk (pe_ifExp hc ha hb) fun σ H Q' ⟨S, h, s, Q, E, m, rs, lk, hm, pk⟩ =>
  ⟨S, h, s, _, E, m, rs, lk, hm, fun S1 H1 h1 c f1 m1 q1 => by
    cases c with
    | true => rw [if_pos rfl] at q1 ⊢; exact ⟨S1, h1, s, Q, E, m1, rs.fut f1, lk.fut f1, q1, pk.fut f1⟩
    | false => rw [if_neg Bool.false_ne_true] at q1 ⊢; exact ⟨S1, h1, s, Q, E, m1, rs.fut f1, lk.fut f1, q1, pk.fut f1⟩⟩

/-! ### arguments -/
def aNil : AM := fun _ h Q _ => Q [] h
def aCons (a : EM) (r : AM) : AM := fun s h Q E => a s h (fun x h1 => r s h1 (fun xs h2 => Q (x :: xs) h2) E) E
theorem ja_nil : JA X W [] aNil := PA.wk pa_nil fun σ H Q' ⟨S, h, s, Q, E, m, rs, lk, hm, pk⟩ => pk S H h _ _ Fut.refl m .nil hm
end
end TL

namespace TL
open PySem L2
section
variable {X : Cx} {W : WX} {K : PySem.W.Frag} {S : Fz} {H : Hp} {h : Hq}
theorem ja_cons {e : Expr} {es : List Expr} {m : EM} {r : AM} (he : JE X W e m) (hr : JA X W es r) (hs : starEach (e :: es) X.env = (false, eval e X.env) :: starEach es X.env := by rfl) : JA X W (e :: es) (aCons m r) := PA.wk (pa_cons he hr hs) fun σ H Q' ⟨S, h, s, Q, E, m, rs, lk, hm, pk⟩ =>
  ⟨S, h, s, _, E, m, rs, lk, hm, fun S1 H1 h1 v x f1 m1 r1 q1 => ⟨S1, h1, s, _, E, m1, rs.fut f1, lk.fut f1, q1, fun S2 H2 h2 vs xs f2 m2 r2 q2 => pk S2 H2 h2 _ _ (f1.trans f2) m2 (.cons (r1.fut f2) r2) q2⟩⟩

/-! ### lists, tuples -/
def lsOf (h : Hq) : T → Option (List T)
  | .lst ts => some ts
  | .ref a => match h a with
    | some (.lst ts) => some ts
    | _ => none
  | _ => none
theorem lsOf_ok (m : Sim K S H h) {v : V} {x : T} {ts : List T} (r : Rep K S H v x) (e : lsOf h x = some ts) : ∃ a vs, v = .ref a ∧ H a = some (.lst vs) ∧ RepL K S H vs ts := by
  cases r with
  | lst s hh q => cases e; exact ⟨_, _, rfl, hh, q⟩
  | ref a =>
    simp only [lsOf] at e
    cases z : h a with
    | none => rw [z] at e; cases e
    | some o =>
      rw [z] at e
      cases o with
      | lst ts' =>
        cases e
        obtain ⟨u, e1, vs, e2, r2⟩ := m.ob a _ z
        subst e2
        exact ⟨a, vs, rfl, e1, r2⟩
      | ins C fs => cases e
      | pool => cases e
      | dK _ => cases e
      | dT _ => cases e
  | non => cases e
  | bl b => cases e
  | int i => cases e
  | str x => cases e
  | tup _ _ _ => cases e
  | tupK _ _ => cases e
  | ins _ _ _ => cases e
  | ty n => cases e
  | scr _ _ => cases e
  | scrK _ => cases e
  | exc _ _ _ => cases e
  | exc0 => cases e
/-- a new list: frozen at once, or followed -/
def mk (fl : Bool) (ts : List T) (h : Hq) (Q : TK) : Prop := if fl = true then Q (.lst ts) h else ∀ p, h p = none → Q (.ref p) (put h p (.lst ts))
@[simp] theorem mk_true {ts : List T} {h : Hq} {Q : TK} : mk true ts h Q = Q (.lst ts) h := by unfold mk; rw [if_pos rfl]
@[simp] theorem mk_false {ts : List T} {h : Hq} {Q : TK} : mk false ts h Q = ∀ p, h p = none → Q (.ref p) (put h p (.lst ts)) := by unfold mk; rw [if_neg Bool.false_ne_true]
theorem mk_ok (m : Sim K S H h) {fl : Bool} {vs : List V} {ts : List T} {Q : TK} {Q' : VK} (r : RepL K S H vs ts) (q : mk fl ts h Q) (pk : PK K S H Q Q') : ∀ p, H p = none → Q' (.ref p) (upd H p (.lst vs)) := fun p hp => by
  cases fl with
  | true =>
    rw [mk_true] at q
    obtain ⟨m1, f1⟩ := m.frozen (u := .lst vs) hp
    exact pk _ _ h _ _ f1 m1 (.lst (.inr rfl) upd_same (r.fut f1)) q
  | false =>
    rw [mk_false] at q
    exact pk S _ _ _ _ (fut_upd (m.nS hp)) (m.new (o := .lst ts) hp ⟨vs, rfl, r⟩) (.ref p) (q p (m.free hp))
theorem tup_ok (m : Sim K S H h) {vs : List V} {ts : List T} {Q : TK} {Q' : VK} (r : RepL K S H vs ts) (q : Q (.tup ts) h) (pk : PK K S H Q Q') : ∀ p, H p = none → Q' (.ref p) (upd H p (.tup vs)) := fun p hp => by
  obtain ⟨m1, f1⟩ := m.frozen (u := .tup vs) hp
  exact pk _ _ h _ _ f1 m1 (.tup (.inr rfl) upd_same (r.fut f1)) q
abbrev lim : Nat := 1000000
theorem lim_le {n : Nat} (h : n ≤ lim) : n ≤ sizeLine := Nat.le_trans h (by decide)
theorem lim_lt {n : Nat} (h : n ≤ lim) : n < sizeLine := Nat.lt_of_le_of_lt h (by decide)
def eTup (a : AM) : EM := fun s h Q E => a s h (fun ts h1 => ts.length ≤ lim ∧ Q (.tup ts) h1) E
def eLst (fl : Bool) (a : AM) : EM := fun s h Q E => a s h (fun ts h1 => ts.length ≤ lim ∧ mk fl ts h1 Q) E
theorem j_tup {es : List Expr} {a : AM} {x1} {pos : Pos} (ha : JA X W es a) : JE X W (.Tuple es x1 pos) (eTup a) := PE.wk (pe_tup ha) fun σ H Q' ⟨S, h, s, Q, E, m, rs, lk, hm, pk⟩ =>
  ⟨S, h, s, _, E, m, rs, lk, hm, fun S1 H1 h1 vs ts f1 m1 r1 ⟨l, q1⟩ => ⟨lim_le (by rw [r1.length]; exact l), tup_ok m1 r1 q1 (pk.fut f1)⟩⟩
theorem j_lst (fl : Bool) {es : List Expr} {a : AM} {pos : Pos} (ha : JA X W es a) : JE X W (.List es pos) (eLst fl a) := PE.wk (pe_lst ha) fun σ H Q' ⟨S, h, s, Q, E, m, rs, lk, hm, pk⟩ =>
  ⟨S, h, s, _, E, m, rs, lk, hm, fun S1 H1 h1 vs ts f1 m1 r1 ⟨l, q1⟩ => ⟨lim_le (by rw [r1.length]; exact l), mk_ok m1 r1 q1 (pk.fut f1)⟩⟩
/-- freezing a followed list -/
def frzK (Q : TK) : TK := fun x h1 => match x with
  | .ref p => match h1 p with
    | some (.lst ts) => Q (.lst ts) (del h1 p)
    | some (.ins C gs) => Q (.ins C gs) (del h1 p)
    | _ => Q (.ref p) h1
  | x => Q x h1
def eFrz (a : EM) : EM := fun s h Q E => a s h (frzK Q) E
theorem frz_ok (m : Sim K S H h) {v : V} {x : T} {Q : TK} {Q' : VK} (r : Rep K S H v x) (pk : PK K S H Q Q') (q : frzK Q x h) : Q' v H := by
  unfold frzK at q
  cases r with
  | ref p =>
    dsimp only at q
    split at q
    · rename_i ts e
      obtain ⟨u, e1, vs, e2, r2⟩ := m.ob p _ e
      subst e2
      have f : Fut S H (plus S p) H := fut_plus Fut.refl
      exact pk _ H _ _ _ f (m.freeze e) (.lst (.inr rfl) e1 (r2.fut f)) q
    · rename_i C gs e
      obtain ⟨u, e1, dx, fs, e2, r2⟩ := m.ob p _ e
      subst e2
      have f : Fut S H (plus S p) H := fut_plus Fut.refl
      exact pk _ H _ _ _ f (m.freeze e) (.ins (.inr rfl) e1 (r2.fut f)) q
    · exact pk S H h _ _ Fut.refl m (.ref p) q
  | non => exact pk S H h _ _ Fut.refl m .non q
  | bl b => exact pk S H h _ _ Fut.refl m (.bl b) q
  | int i => exact pk S H h _ _ Fut.refl m (.int i) q
  | str x => exact pk S H h _ _ Fut.refl m (.str x) q
  | tup a b c => exact pk S H h _ _ Fut.refl m (.tup a b c) q
  | tupK a b => exact pk S H h _ _ Fut.refl m (.tupK a b) q
  | lst a b c => exact pk S H h _ _ Fut.refl m (.lst a b c) q
  | ins a b c => exact pk S H h _ _ Fut.refl m (.ins a b c) q
  | ty n => exact pk S H h _ _ Fut.refl m (.ty n) q
  | scr a b => exact pk S H h _ _ Fut.refl m (.scr a b) q
  | scrK b => exact pk S H h _ _ Fut.refl m (.scrK b) q
  | exc a b c => exact pk S H h _ _ Fut.refl m (.exc a b c) q
  | exc0 => exact pk S H h _ _ Fut.refl m .exc0 q
theorem j_frz {e : Expr} {a : EM} (he : JE X W e a) : JE X W e (eFrz a) := PE.wk he fun σ H Q' ⟨S, h, s, Q, E, m, rs, lk, hm, pk⟩ =>
  ⟨S, h, s, _, E, m, rs, lk, hm, fun S1 H1 h1 v x f1 m1 r1 q1 => frz_ok m1 r1 (pk.fut f1) q1⟩

/-! ### numbers -/
def MulOk (i j : Int) : Prop := i.natAbs < 2 ^ 64 ∨ j.natAbs < 2 ^ 64 ∨ (i.natAbs < 2 ^ 250 ∧ j.natAbs < 2 ^ 250)
def oI (g : Int → Int → T) : R2T := fun x y h Q => match x, y with
  | .int i, .int j => Q (g i j) h
  | _, _ => False
theorem op_I {g : Int → Int → V} {g' : Int → Int → T} (e : ∀ S H i j, Rep K S H (g i j) (g' i j)) : OP K (rI0 g) (oI g') := fun S H h v w x y Q Q' m r1 r2 q pk => by
  cases r1 <;> cases r2 <;> first | exact q.elim | skip
  exact ⟨_, _, rfl, rfl, pk S H h _ _ Fut.refl m (e S H _ _) q⟩
def oIC (C : Int → Int → Prop) (g : Int → Int → T) : R2T := fun x y h Q => match x, y with
  | .int i, .int j => C i j ∧ Q (g i j) h
  | _, _ => False
theorem op_IC {C C' : Int → Int → Prop} {g : Int → Int → V} {g' : Int → Int → T} (c : ∀ i j, C' i j → C i j) (e : ∀ S H i j, Rep K S H (g i j) (g' i j)) : OP K (rI C g) (oIC C' g') := fun S H h v w x y Q Q' m r1 r2 q pk => by
  cases r1 <;> cases r2 <;> first | exact q.elim | skip
  exact ⟨_, _, rfl, rfl, c _ _ q.1, pk S H h _ _ Fut.refl m (e S H _ _) q.2⟩
theorem OP.or {r r' : R2} {o o' u : R2T} (a : OP K r o) (b : OP K r' o') (c : ∀ x y h Q, u x y h Q → o x y h Q ∨ o' x y h Q) : OP K (fun x y H Q => r x y H Q ∨ r' x y H Q) u := fun S H h v w x y Q Q' m r1 r2 q pk => by
  rcases c x y h Q q with q | q
  · exact .inl (a S H h v w x y Q Q' m r1 r2 q pk)
  · exact .inr (b S H h v w x y Q Q' m r1 r2 q pk)

def oSub : R2T := oI fun i j => .int (i - j)
def oMod : R2T := oIC (fun _ j => 0 < j) fun i j => .int (i % j)
def oDiv : R2T := oIC (fun _ j => 0 < j ∧ j < 2 ^ 250) fun i j => .int (i / j)
def oPow : R2T := oIC (fun i j => 0 ≤ j ∧ j ≤ 1000 ∧ i.natAbs < 2 ^ 64) fun i j => .int (i ^ j.toNat)
def oLt : R2T := oI fun i j => .bl (decide (i < j))
def oLe : R2T := oI fun i j => .bl (decide (i ≤ j))
def oGt : R2T := oI fun i j => .bl (decide (j < i))
def oGe : R2T := oI fun i j => .bl (decide (j ≤ i))
theorem p_sub : OP K (rI0 fun i j => .int (i - j)) oSub := op_I fun _ _ _ _ => .int _
theorem p_mod : OP K (rI (fun _ j => 0 < j) fun i j => .int (i % j)) oMod := op_IC (fun _ _ c => c) fun _ _ _ _ => .int _
theorem p_div : OP K (rI CDivW fun i j => .int (i / j)) oDiv := op_IC (fun i j c => wide_div (b := 250) c.1 (by have := c.1; have := c.2; omega) (by decide) (by decide)) fun _ _ _ _ => .int _
theorem p_pow : OP K (rI CPow fun i j => .int (i ^ j.toNat)) oPow := op_IC (fun i j c => ⟨c.1, by have := c.2.1; omega, c.2.2⟩) fun _ _ _ _ => .int _
theorem p_lt : OP K (rI0 fun i j => .bl (decide (i < j))) oLt := op_I fun _ _ _ _ => .bl _
theorem p_le : OP K (rI0 fun i j => .bl (decide (i ≤ j))) oLe := op_I fun _ _ _ _ => .bl _
theorem p_gt : OP K (rI0 fun i j => .bl (decide (j < i))) oGt := op_I fun _ _ _ _ => .bl _
theorem p_ge : OP K (rI0 fun i j => .bl (decide (j ≤ i))) oGe := op_I fun _ _ _ _ => .bl _
/-- + of ints, texts, lists -/
def oAdd (fl : Bool) : R2T := fun x y h Q => match x, y with
  | .int i, .int j => Q (.int (i + j)) h
  | .str a, .str b => a.length + b.length ≤ lim ∧ Q (.str (a ++ b)) h
  | x, y => match lsOf h x, lsOf h y with
    | some xs, some ys => xs.length + ys.length ≤ lim ∧ mk fl (xs ++ ys) h Q
    | _, _ => False
def rAdd : R2 := fun x y H Q => (∃ i j, x = .int i ∧ y = .int j ∧ Q (.int (i + j)) H) ∨ (∃ i j, x = .str i ∧ y = .str j ∧ i.length + j.length ≤ sizeLine ∧ Q (.str (i ++ j)) H) ∨ rCat x y H Q
theorem o_add : OpR X (binaryOp .Add) rAdd := OpR.or op_add (OpR.or op_add_str op_cat)
theorem p_add (fl : Bool) : OP K rAdd (oAdd fl) := fun S H h v w x y Q Q' m r1 r2 q pk => by
  unfold oAdd at q
  split at q
  · cases r1; cases r2; exact .inl ⟨_, _, rfl, rfl, pk S H h _ _ Fut.refl m (.int _) q⟩
  · cases r1; cases r2; exact .inr (.inl ⟨_, _, rfl, rfl, lim_le q.1, pk S H h _ _ Fut.refl m (.str _) q.2⟩)
  · split at q
    · rename_i xs ys e1 e2
      obtain ⟨a, vs, rfl, ha, ra⟩ := lsOf_ok m r1 e1
      obtain ⟨b, ws, rfl, hb, rb⟩ := lsOf_ok m r2 e2
      exact .inr (.inr ⟨a, b, vs, ws, rfl, rfl, ha, hb, lim_le (by rw [ra.length, rb.length]; exact q.1), mk_ok m (ra.append rb) q.2 pk⟩)
    · exact q.elim
def oMul (fl : Bool) : R2T := fun x y h Q => match x, y with
  | .int i, .int j => MulOk i j ∧ Q (.int (i * j)) h
  | x, .int k => match lsOf h x with
    | some xs => 0 ≤ k ∧ k ≤ 1000000 ∧ xs.length * k.toNat ≤ lim ∧ mk fl (List.replicate k.toNat xs).flatten h Q
    | none => False
  | _, _ => False
def rMulA : R2 := fun x y H Q => rI CMul (fun i j => .int (i * j)) x y H Q ∨ rI CMulW (fun i j => .int (i * j)) x y H Q ∨ rRep x y H Q
theorem o_mul : OpR X (binaryOp .Mult) rMulA := OpR.or op_mul (OpR.or op_mulW op_rep)
theorem p_mul (fl : Bool) : OP K rMulA (oMul fl) := fun S H h v w x y Q Q' m r1 r2 q pk => by
  unfold oMul at q
  split at q
  · cases r1; cases r2
    rename_i i j
    have fin := pk S H h _ _ Fut.refl m (.int (i * j)) q.2
    rcases q.1 with c | c | ⟨c, d⟩
    · exact .inl ⟨_, _, rfl, rfl, .inl (by omega), fin⟩
    · exact .inl ⟨_, _, rfl, rfl, .inr (by omega), fin⟩
    · exact .inr (.inl ⟨_, _, rfl, rfl, wide_mul (a := 250) (b := 250) c d (by decide) (by decide) (by decide), fin⟩)
  · split at q
    · rename_i xs e1
      obtain ⟨a, vs, rfl, ha, ra⟩ := lsOf_ok m r1 e1
      obtain ⟨k0, k1, k2, q⟩ := q
      cases r2
      exact .inr (.inr ⟨a, _, vs, rfl, rfl, ha, by omega, by omega, lim_le (by rw [ra.length]; exact k2), mk_ok m (ra.replicate _) q pk⟩)
    · exact q.elim
  · exact q.elim
/-- -a -/
def eNeg (a : EM) : EM := fun s h Q E => a s h (fun x h1 => match x with
  | .int i => Q (.int (-i)) h1
  | _ => False) E
theorem j_neg {a : Expr} {m : EM} {pos : Pos} (ha : JE X W a m) : JE X W (.UnaryOp .USub a pos) (eNeg m) := PE.wk (pe_un un_neg ha) fun σ H Q' ⟨S, h, s, Q, E, m, rs, lk, hm, pk⟩ =>
  ⟨S, h, s, _, E, m, rs, lk, hm, fun S1 H1 h1 v x f1 m1 r1 q1 => by
    split at q1
    · cases r1; exact ⟨_, rfl, pk S1 H1 h1 _ _ f1 m1 (.int _) q1⟩
    · exact q1.elim⟩
/-- is None -/
def oIsN : R2T := fun x y h Q => match y with
  | .non => match x with
    | .non => Q (.bl true) h
    | _ => Q (.bl false) h
  | _ => False
def oNotN : R2T := fun x y h Q => match y with
  | .non => match x with
    | .non => Q (.bl false) h
    | _ => Q (.bl true) h
  | _ => False
theorem p_isN : OP K (fun x y H Q => y = .non ∧ Q (.bl (decide (x = .non))) H) oIsN := fun S H h v w x y Q Q' m r1 r2 q pk => by
  cases r2 <;> first | exact q.elim | skip
  refine ⟨rfl, ?_⟩
  cases r1 <;> first
    | exact pk S H h _ _ Fut.refl m (.bl true) q
    | exact pk S H h _ _ Fut.refl m (.bl false) q
theorem p_notN : OP K (fun x y H Q => y = .non ∧ Q (.bl (!decide (x = .non))) H) oNotN := fun S H h v w x y Q Q' m r1 r2 q pk => by
  cases r2 <;> first | exact q.elim | skip
  refine ⟨rfl, ?_⟩
  cases r1 <;> first
    | exact pk S H h _ _ Fut.refl m (.bl false) q
    | exact pk S H h _ _ Fut.refl m (.bl true) q

/-! ### == -/
mutual
def toD : T → Option PyData
  | .non => some .none
  | .bl b => some (.bool b)
  | .int i => some (.int i)
  | .str x => if PyData.strOk x = true then some (.str x) else none
  | .tup ts => (toDs ts).map .tuple
  | .lst ts => (toDs ts).map .list
  | _ => none
def toDs : List T → Option (List PyData)
  | [] => some []
  | t :: ts => match toD t, toDs ts with
    | some d, some ds => some (d :: ds)
    | _, _ => none
end
mutual
theorem toD_ok : ∀ {t : T} {v : V} {d : PyData}, Rep K S H v t → toD t = some d → Dp K H v d ∧ d.canLay0 = true
  | _, _, d, .non, e => by cases e; exact ⟨.non, rfl⟩
  | _, _, d, .bl b, e => by cases e; exact ⟨.bl b, rfl⟩
  | _, _, d, .int i, e => by cases e; exact ⟨.int i, rfl⟩
  | _, _, d, .str x, e => by
    unfold toD at e
    split at e
    · rename_i hs; cases e; exact ⟨.str x, by unfold PyData.canLay0; exact hs⟩
    · cases e
  | .tup ts, _, d, .tup s hh r, e => by
    unfold toD at e
    cases z : toDs ts with
    | none => rw [z] at e; cases e
    | some ds => rw [z] at e; cases e; exact ⟨.tup (SqT.of hh) (toDs_ok r z).1, by unfold PyData.canLay0; exact (toDs_ok r z).2⟩
  | .tup ts, _, d, .tupK hh r, e => by
    unfold toD at e
    cases z : toDs ts with
    | none => rw [z] at e; cases e
    | some ds => rw [z] at e; cases e; exact ⟨.tup (.inr hh) (toDs_ok r z).1, by unfold PyData.canLay0; exact (toDs_ok r z).2⟩
  | .lst ts, _, d, .lst s hh r, e => by
    unfold toD at e
    cases z : toDs ts with
    | none => rw [z] at e; cases e
    | some ds => rw [z] at e; cases e; exact ⟨.lst (SqL.of hh) (toDs_ok r z).1, by unfold PyData.canLay0; exact (toDs_ok r z).2⟩
  | _, _, d, .ins _ _ _, e => by cases e
  | _, _, d, .ref _, e => by cases e
  | _, _, d, .ty _, e => by cases e
  | _, _, d, .scr _ _, e => by cases e
  | _, _, d, .scrK _, e => by cases e
theorem toDs_ok : ∀ {ts : List T} {vs : List V} {ds : List PyData}, RepL K S H vs ts → toDs ts = some ds → DpAll K H vs ds ∧ PyData.canLayAll0 ds = true
  | _, _, ds, .nil, e => by cases e; exact ⟨.nil, rfl⟩
  | t :: ts, _, ds, .cons r q, e => by
    unfold toDs at e
    split at e
    · rename_i d ds' e1 e2
      cases e
      obtain ⟨a1, a2⟩ := toD_ok r e1
      obtain ⟨b1, b2⟩ := toDs_ok q e2
      exact ⟨.cons a1 b1, by unfold PyData.canLayAll0; rw [a2, b2]; rfl⟩
    · cases e
end
/-- what a value shows: a followed list by its items -/
def view (h : Hq) : T → T
  | .ref a => match h a with
    | some (.lst ts) => .lst ts
    | _ => .ref a
  | x => x
def eqT (x y : T) : Bool := match toD x, toD y with
  | some d, some e => PyData.eqv d e
  | _, _ => false
def depth? (x : T) : Bool := match toD x with
  | some d => decide (d.depth ≤ 64)
  | none => false
theorem view_ok (m : Sim K S H h) {v : V} {x : T} {d : PyData} (r : Rep K S H v x) (e : toD (view h x) = some d) : Dp K H v d ∧ d.canLay0 = true := by
  cases r with
  | ref a =>
    simp only [view] at e
    cases z : h a with
    | none => rw [z] at e; cases e
    | some o =>
      rw [z] at e
      cases o with
      | lst ts =>
        obtain ⟨u, e1, vs, e2, r2⟩ := m.ob a _ z
        subst e2
        have f : Fut S H (plus S a) H := fut_plus Fut.refl
        exact toD_ok (S := plus S a) (.lst (.inr rfl) e1 (r2.fut f)) e
      | ins C fs => cases e
      | pool => cases e
      | dK _ => cases e
      | dT _ => cases e
  | non => exact toD_ok (S := S) .non e
  | bl b => exact toD_ok (S := S) (.bl b) e
  | int i => exact toD_ok (S := S) (.int i) e
  | str x => exact toD_ok (S := S) (.str x) e
  | tup a b c => exact toD_ok (.tup a b c) e
  | tupK a b => exact toD_ok (.tupK a b) e
  | lst a b c => exact toD_ok (.lst a b c) e
  | ins a b c => exact toD_ok (.ins a b c) e
  | ty n => exact toD_ok (S := S) (.ty n) e
  | scr a b => exact toD_ok (.scr a b) e
  | scrK b => exact toD_ok (S := S) (.scrK b) e
  | exc a b c => exact toD_ok (.exc a b c) e
  | exc0 => exact toD_ok (S := S) .exc0 e
def oEq : R2T := fun x y h Q => depth? (view h x) = true ∧ depth? (view h y) = true ∧ Q (.bl (eqT (view h x) (view h y))) h
def oNe : R2T := fun x y h Q => depth? (view h x) = true ∧ depth? (view h y) = true ∧ Q (.bl (!eqT (view h x) (view h y))) h
theorem depth?_ok {x : T} (e : depth? x = true) : ∃ d, toD x = some d ∧ d.depth ≤ 64 := by
  unfold depth? at e
  split at e
  · exact ⟨_, by assumption, of_decide_eq_true e⟩
  · cases e
theorem p_eq : OP K (rEqD K) oEq := fun S H h v w x y Q Q' m r1 r2 q pk => by
  obtain ⟨q1, q2, q⟩ := q
  obtain ⟨d, e1, n1⟩ := depth?_ok q1
  obtain ⟨e, e2, n2⟩ := depth?_ok q2
  obtain ⟨a1, a2⟩ := view_ok m r1 e1
  obtain ⟨b1, b2⟩ := view_ok m r2 e2
  unfold eqT at q
  rw [e1, e2] at q
  exact ⟨d, e, a1, b1, by unfold SeqAt.shaped; rw [a2]; simpa using n1, by unfold SeqAt.shaped; rw [b2]; simpa using n2, pk S H h _ _ Fut.refl m (.bl _) q⟩
theorem p_ne : OP K (rNeD K) oNe := fun S H h v w x y Q Q' m r1 r2 q pk => by
  obtain ⟨q1, q2, q⟩ := q
  obtain ⟨d, e1, n1⟩ := depth?_ok q1
  obtain ⟨e, e2, n2⟩ := depth?_ok q2
  obtain ⟨a1, a2⟩ := view_ok m r1 e1
  obtain ⟨b1, b2⟩ := view_ok m r2 e2
  unfold eqT at q
  rw [e1, e2] at q
  exact ⟨d, e, a1, b1, by unfold SeqAt.shaped; rw [a2]; simpa using n1, by unfold SeqAt.shaped; rw [b2]; simpa using n2, pk S H h _ _ Fut.refl m (.bl _) q⟩
/-- in, not in a list, by == -/
def inT (x : T) (ys : List T) : Bool := ys.any fun y => eqT y x
def oIn (neg : Bool) : R2T := fun x y h Q => match view h y with
  | .lst ys => depth? (view h x) = true ∧ depth? (.lst ys) = true ∧ Q (.bl (inT (view h x) ys != neg)) h
  | _ => False
theorem any_toD {x : T} {d : PyData} (e : toD x = some d) : ∀ {ys : List T} {ds : List PyData}, toDs ys = some ds → (ds.any fun z => PyData.eqv z d) = inT x ys
  | [], _, z => by cases z; rfl
  | y :: ys, _, z => by
    unfold toDs at z
    split at z
    · rename_i c cs e1 e2
      cases z
      show (PyData.eqv c d || cs.any fun z => PyData.eqv z d) = (eqT y x || inT x ys)
      rw [any_toD e e2]
      unfold eqT
      rw [e1, e]
    · cases z
theorem in_parts (m : Sim K S H h) {v w : V} {x y : T} {ys : List T} (r1 : Rep K S H v x) (r2 : Rep K S H w y) (ey : view h y = .lst ys) (q1 : depth? (view h x) = true) (q2 : depth? (.lst ys) = true) :
    ∃ d ds, Dp K H v d ∧ Dp K H w (.list ds) ∧ SeqAt.shaped d = true ∧ SeqAt.shaped (.list ds) = true ∧ (ds.any fun z => PyData.eqv z d) = inT (view h x) ys := by
  obtain ⟨d, e1, n1⟩ := depth?_ok q1
  obtain ⟨e, e2, n2⟩ := depth?_ok q2
  obtain ⟨a1, a2⟩ := view_ok m r1 e1
  have e2' := e2
  rw [← ey] at e2'
  obtain ⟨b1, b2⟩ := view_ok m r2 e2'
  cases z : toDs ys with
  | none => unfold toD at e2; rw [z] at e2; cases e2
  | some ds =>
    unfold toD at e2; rw [z] at e2; cases e2
    exact ⟨d, ds, a1, b1, by unfold SeqAt.shaped; rw [a2]; simpa using n1, by unfold SeqAt.shaped; rw [b2]; simpa using n2, any_toD e1 z⟩
theorem p_in : OP K (rInD K) (oIn false) := fun S H h v w x y Q Q' m r1 r2 q pk => by
  unfold oIn at q
  split at q
  · rename_i ys ey
    obtain ⟨q1, q2, q⟩ := q
    obtain ⟨d, ds, a, b, c1, c2, e⟩ := in_parts m r1 r2 ey q1 q2
    rw [← e] at q
    exact ⟨d, ds, a, b, c1, c2, pk S H h _ _ Fut.refl m (.bl _) (by simpa using q)⟩
  · exact q.elim
theorem p_notIn : OP K (rNotInD K) (oIn true) := fun S H h v w x y Q Q' m r1 r2 q pk => by
  unfold oIn at q
  split at q
  · rename_i ys ey
    obtain ⟨q1, q2, q⟩ := q
    obtain ⟨d, ds, a, b, c1, c2, e⟩ := in_parts m r1 r2 ey q1 q2
    rw [← e] at q
    exact ⟨d, ds, a, b, c1, c2, pk S H h _ _ Fut.refl m (.bl _) (by simpa using q)⟩
  · exact q.elim
end
end TL

namespace TL
open PySem L2
section
variable {X : Cx} {W : WX} {K : PySem.W.Frag} {S : Fz} {H : Hp} {h : Hq}
/-! ### subscripts, slices -/
theorem atI_rep {vs : List V} {ts : List T} {i : Int} {t : T} (r : RepL K S H vs ts) (e : atI ts i = some t) : ∃ v, atI vs i = some v ∧ Rep K S H v t := by
  unfold atI at *
  rw [r.length]
  cases z : ixN ts.length i with
  | none => rw [z] at e; cases e
  | some j => rw [z] at e; exact r.get e
def atK (ts : List T) (i : Int) (h : Hq) (Q : TK) : Prop := match atI ts i with
  | some t => Q t h
  | none => False
def oIx : R2T := fun x y h Q => match y with
  | .int i => match x with
    | .tup ts => atK ts i h Q
    | .scr ns => atK (ns.map T.int) i h Q
    | .str z => z.length ≤ lim ∧ match atI z.cps.toList i with
      | some c => Q (.str ⟨#[c]⟩) h
      | none => False
    | x => match lsOf h x with
      | some ts => atK ts i h Q
      | none => False
  | _ => False
theorem atK_ok (m : Sim K S H h) {vs : List V} {ts : List T} {i : Int} {Q : TK} {Q' : VK} (r : RepL K S H vs ts) (q : atK ts i h Q) (pk : PK K S H Q Q') : ∃ v, atI vs i = some v ∧ Q' v H := by
  unfold atK at q
  split at q
  · rename_i t e
    obtain ⟨v, e1, r1⟩ := atI_rep r e
    exact ⟨v, e1, pk S H h _ _ Fut.refl m r1 q⟩
  · exact q.elim
theorem p_ix : OP K (rIx K) oIx := fun S H h v w x y Q Q' m r1 r2 q pk => by
  unfold oIx at q
  split at q
  · rename_i i
    cases r2
    split at q
    · rename_i ts
      cases r1 with
      | tup s hh r => obtain ⟨u, e, q'⟩ := atK_ok m r q pk; exact .inr (.inl ⟨_, _, i, u, rfl, rfl, SqT.of hh, e, q'⟩)
      | tupK hh r => obtain ⟨u, e, q'⟩ := atK_ok m r q pk; exact .inr (.inl ⟨_, _, i, u, rfl, rfl, .inr hh, e, q'⟩)
    · obtain ⟨a, rfl, hh, _⟩ := r1.scr_sq
      obtain ⟨u, e, q'⟩ := atK_ok m (RepL.of_ints _) q pk
      exact .inl ⟨_, _, i, u, rfl, rfl, hh, e, q'⟩
    · cases r1
      obtain ⟨l, q⟩ := q
      split at q
      · rename_i c e
        exact .inr (.inr ⟨_, i, c, rfl, rfl, lim_le l, e, pk S H h _ _ Fut.refl m (.str _) q⟩)
      · exact q.elim
    · split at q
      · rename_i ts e
        obtain ⟨a, vs, rfl, ha, r⟩ := lsOf_ok m r1 e
        obtain ⟨u, e, q'⟩ := atK_ok m r q pk
        exact .inl ⟨a, vs, i, u, rfl, rfl, SqL.of ha, e, q'⟩
      · exact q.elim
  · exact q.elim
theorem j_ix {a b : Expr} {ma mb : EM} {pos : Pos} (ha : JE X W a ma) (hb : JE X W b mb) (hs : PlainIx b := by intro _ _; rfl) : JE X W (.Subscript a b pos) (eOp oIx ma mb) := PE.wk (pe_ix ix_seq ha hb hs) (lift_op p_ix)
def mNo : OM := fun _ h Q _ => Q none h
def mPart (a : EM) : OM := fun s h Q E => a s h (fun x h1 => match x with
  | .int i => Q (some i) h1
  | _ => False) E
theorem jo_none : JO X W none mNo := PO.wk po_none fun σ H Q' ⟨S, h, s, Q, E, m, rs, lk, hm, pk⟩ => pk S H h _ Fut.refl m hm
theorem jo_some {e : Expr} {m : EM} (he : JE X W e m) : JO X W (some e) (mPart m) := PO.wk (po_some he) fun σ H Q' ⟨S, h, s, Q, E, m, rs, lk, hm, pk⟩ =>
  ⟨S, h, s, _, E, m, rs, lk, hm, fun S1 H1 h1 v x f1 m1 r1 q1 => by
    split at q1
    · cases r1; exact ⟨_, rfl, pk S1 H1 h1 _ f1 m1 q1⟩
    · exact q1.elim⟩
def cutT (ts : List T) (lo hi : Option Int) : List T := (ts.drop (HT.sIx ts.length 0 lo)).take (HT.sIx ts.length ts.length hi - HT.sIx ts.length 0 lo)
theorem cut_rep {vs : List V} {ts : List T} (r : RepL K S H vs ts) (lo hi : Option Int) : RepL K S H (cutV vs lo hi) (cutT ts lo hi) := by
  unfold cutV cutT
  rw [r.length]
  exact (r.drop _).take _
def eSl (fl : Bool) (a : EM) (l u : OM) : EM := fun s h Q E => a s h (fun x h1 => l s h1 (fun lo h2 => u s h2 (fun hi h3 => match x with
  | .scr ns => mk fl (cutT (ns.map T.int) lo hi) h3 Q
  | x => match lsOf h3 x with
    | some ts => mk fl (cutT ts lo hi) h3 Q
    | none => False) E) E) E
theorem j_sl (fl : Bool) {a : Expr} {lo hi : Option Expr} {ma : EM} {ml mh : OM} {p2 pos : Pos} (ha : JE X W a ma) (hl : JO X W lo ml) (hh : JO X W hi mh) : JE X W (.Subscript a (.Slice lo hi none p2) pos) (eSl fl ma ml mh) := PE.wk (pe_slice sl_list ha hl hh) fun σ H Q' ⟨S, h, s, Q, E, m, rs, lk, hm, pk⟩ =>
  ⟨S, h, s, _, E, m, rs, lk, hm, fun S1 H1 h1 v x f1 m1 r1 q1 => ⟨S1, h1, s, _, E, m1, rs.fut f1, lk.fut f1, q1, fun S2 H2 h2 l f2 m2 q2 => ⟨S2, h2, s, _, E, m2, rs.fut (f1.trans f2), lk.fut (f1.trans f2), q2, fun S3 H3 h3 u f3 m3 q3 => by
    have r3 := r1.fut (f2.trans f3)
    split at q3
    · obtain ⟨a, rfl, hh, _⟩ := r3.scr_sq
      exact ⟨_, _, rfl, hh, mk_ok m3 (cut_rep (RepL.of_ints _) l u) q3 (pk.fut ((f1.trans f2).trans f3))⟩
    · split at q3
      · rename_i ts e
        obtain ⟨a, vs, rfl, ha, r⟩ := lsOf_ok m3 r3 e
        exact ⟨a, vs, rfl, SqL.of ha, mk_ok m3 (cut_rep r l u) q3 (pk.fut ((f1.trans f2).trans f3))⟩
      · exact q3.elim⟩⟩⟩

/-! ### calls of built-ins by values -/
abbrev RLT := List T → Hq → TK → Prop
def CP (K : PySem.W.Frag) (r : List V → Hp → VK → Prop) (o : RLT) : Prop := ∀ S H h vs xs Q Q', Sim K S H h → RepL K S H vs xs → o xs h Q → PK K S H Q Q' → r vs H Q'
def eCB (o : RLT) (a : AM) : EM := fun s h Q E => a s h (fun xs h1 => o xs h1 Q) E
theorem lift_cb {r : List V → Hp → VK → Prop} {o : RLT} {a : AM} (c : CP K r o) : ∀ σ H Q, liftE K W (eCB o a) σ H Q → tCB r (liftA K W a) σ H Q := fun σ H Q' ⟨S, h, s, Q, E, m, rs, lk, hm, pk⟩ =>
  ⟨S, h, s, _, E, m, rs, lk, hm, fun S1 H1 h1 vs xs f1 m1 r1 q1 => c S1 H1 h1 vs xs Q Q' m1 r1 q1 (pk.fut f1)⟩
theorem j_cb {x : Str} {id : String} {e : Expr} {es : List Expr} {a : AM} {r : List V → Hp → VK → Prop} {o : RLT} {p pos : Pos} (hc : CallR X (.builtin id) r) (c : CP X.K r o) (hg : Gl X x) (hm : X.mg x = none) (hv : bootBuiltins x = some (.builtin id)) (ha : JA X W (e :: es) a)
    (hn : x ≠ "__name__" := by decide) (hdb : (x == ("__debug__" : Str)) = false := by decide) (he : starEach (e :: es) X.env = (false, eval e X.env) :: starEach es X.env := by rfl) (hpl : (backTo pos (starEach es X.env)).any (·.1) = false := by rfl) :
    JE X W (.Call (.Name x p) (e :: es) [] pos) (eCB o a) := PE.wk (pe_callB hc hg hm hv ha hn hdb he hpl) (lift_cb c)
theorem j_cty {x : Str} {id : String} {e : Expr} {es : List Expr} {a : AM} {r : List V → Hp → VK → Prop} {o : RLT} {p pos : Pos} (hc : CallR X (.type id) r) (c : CP X.K r o) (hg : Gl X x) (hm : X.mg x = none) (hv : bootBuiltins x = some (.type id)) (ha : JA X W (e :: es) a)
    (hn : x ≠ "__name__" := by decide) (hdb : (x == ("__debug__" : Str)) = false := by decide) (he : starEach (e :: es) X.env = (false, eval e X.env) :: starEach es X.env := by rfl) (hpl : (backTo pos (starEach es X.env)).any (·.1) = false := by rfl) :
    JE X W (.Call (.Name x p) (e :: es) [] pos) (eCB o a) := PE.wk (pe_callTy hc hg hm hv ha hn hdb he hpl) (lift_cb c)
def oLen : RLT := fun xs h Q => match xs with
  | [.tup ts] => Q (.int ts.length) h
  | [.scr ns] => Q (.int ns.length) h
  | [.str z] => z.length ≤ lim ∧ Q (.int z.length) h
  | [x] => match lsOf h x with
    | some ts => Q (.int ts.length) h
    | none => False
  | _ => False
theorem c_len : CP K (fun xs H Q => ∃ x n, xs = [x] ∧ LenV K x H n ∧ Q (.int n) H) oLen := fun S H h vs xs Q Q' m r q pk => by
  unfold oLen at q
  split at q
  · cases r with
    | cons r1 rn =>
      cases rn
      cases r1 with
      | tup s hh r => exact ⟨_, _, rfl, .inr ⟨_, SqT.of hh, r.length.symm⟩, pk S H h _ _ Fut.refl m (.int _) q⟩
      | tupK hh r => exact ⟨_, _, rfl, .inr ⟨_, .inr hh, r.length.symm⟩, pk S H h _ _ Fut.refl m (.int _) q⟩
  · cases r with
    | cons r1 rn =>
      cases rn
      obtain ⟨a, rfl, hh, _⟩ := r1.scr_sq
      exact ⟨_, _, rfl, .inl ⟨_, hh, by rw [List.length_map]⟩, pk S H h _ _ Fut.refl m (.int _) q⟩
  · cases r with
    | cons r1 rn =>
      cases rn
      cases r1
      exact ⟨_, _, rfl, ⟨lim_le q.1, rfl⟩, pk S H h _ _ Fut.refl m (.int _) q.2⟩
  · cases r with
    | cons r1 rn =>
      cases rn
      split at q
      · rename_i ts e
        obtain ⟨a, vs, rfl, ha, r⟩ := lsOf_ok m r1 e
        exact ⟨_, _, rfl, .inl ⟨_, SqL.of ha, r.length.symm⟩, pk S H h _ _ Fut.refl m (.int _) q⟩
      · exact q.elim
  · exact q.elim
def oInt : RLT := fun xs h Q => match xs with
  | [.int i] => Q (.int i) h
  | [.bl b] => Q (.int (if b then 1 else 0)) h
  | _ => False
theorem c_int : CP K (fun xs H Q => (∃ i, xs = [.int i] ∧ Q (.int i) H) ∨ ∃ k, xs = [.bl k] ∧ Q (.int (if k then 1 else 0)) H) oInt := fun S H h vs xs Q Q' m r q pk => by
  unfold oInt at q
  split at q
  · cases r with
    | cons r1 rn => cases rn; cases r1; exact .inl ⟨_, rfl, pk S H h _ _ Fut.refl m (.int _) q⟩
  · cases r with
    | cons r1 rn => cases rn; cases r1; exact .inr ⟨_, rfl, pk S H h _ _ Fut.refl m (.int _) q⟩
  · exact q.elim
/-- the ints of a list of ints -/
def intsOf : List T → Option (List Int)
  | [] => some []
  | .int i :: ts => match intsOf ts with
    | some ns => some (i :: ns)
    | none => none
  | _ => none
theorem intsOf_ok : ∀ {ts : List T} {ns : List Int}, intsOf ts = some ns → ts = ns.map T.int
  | [], _, e => by cases e; rfl
  | .int i :: ts, _, e => by
    unfold intsOf at e
    split at e
    · rename_i ns z; cases e; rw [intsOf_ok z]; rfl
    · cases e
  | .non :: _, _, e => by cases e
  | .bl _ :: _, _, e => by cases e
  | .str _ :: _, _, e => by cases e
  | .tup _ :: _, _, e => by cases e
  | .lst _ :: _, _, e => by cases e
  | .ins _ _ :: _, _, e => by cases e
  | .ref _ :: _, _, e => by cases e
  | .ty _ :: _, _, e => by cases e
  | .scr _ :: _, _, e => by cases e
@[simp] theorem intsOf_map : ∀ ns : List Int, intsOf (ns.map T.int) = some ns
  | [] => rfl
  | n :: ns => by show (match intsOf (ns.map T.int) with | some ms => some (n :: ms) | none => none) = _; rw [intsOf_map ns]
def intsIn (h : Hq) (x : T) : Option (List Int) := (lsOf h x).bind intsOf
theorem intsIn_ok (m : Sim K S H h) {v : V} {x : T} {ns : List Int} (r : Rep K S H v x) (e : intsIn h x = some ns) : ∃ a, v = .ref a ∧ H a = some (.lst (ns.map V.int)) := by
  unfold intsIn at e
  cases z : lsOf h x with
  | none => rw [z] at e; cases e
  | some ts =>
    rw [z] at e
    obtain ⟨a, vs, rfl, ha, r⟩ := lsOf_ok m r z
    rw [intsOf_ok e] at r
    rw [r.ints] at ha
    exact ⟨a, rfl, ha⟩
def oSum : RLT := fun xs h Q => match xs with
  | [x] => match intsIn h x with
    | some ns => Q (.int ns.sum) h
    | none => match x with
      | .tup ts => match intsOf ts with
        | some ns => Q (.int ns.sum) h
        | none => False
      | _ => False
  | _ => False
def oSumL : RLT := fun xs h Q => match xs with
  | [x] => match intsIn h x with
    | some ns => Q (.int ns.sum) h
    | none => False
  | _ => False
theorem c_sum : CP K (rSum K) oSumL := fun S H h vs xs Q Q' m r q pk => by
  unfold oSumL at q
  split at q
  · cases r with
    | cons r1 rn =>
      cases rn
      split at q
      · rename_i ns e
        obtain ⟨a, rfl, ha⟩ := intsIn_ok m r1 e
        exact ⟨a, ns, rfl, SqL.of ha, pk S H h _ _ Fut.refl m (.int _) q⟩
      · exact q.elim
  · exact q.elim
/-- max: of two ints, of a list of ints -/
def oMax : RLT := fun xs h Q => match xs with
  | [.int i, .int j] => Q (.int (if j > i then j else i)) h
  | [x] => match intsIn h x with
    | some ns => 0 < ns.length ∧ ∀ m, m ∈ ns → (∀ y, y ∈ ns → y ≤ m) → Q (.int m) h
    | none => False
  | _ => False
def oMin : RLT := fun xs h Q => match xs with
  | [.int i, .int j] => Q (.int (if j < i then j else i)) h
  | [x] => match intsIn h x with
    | some ns => 0 < ns.length ∧ ∀ m, m ∈ ns → (∀ y, y ∈ ns → m ≤ y) → Q (.int m) h
    | none => False
  | _ => False
def rMaxA (K : PySem.W.Frag) : List V → Hp → VK → Prop := fun xs H Q => (∃ i j, xs = [.int i, .int j] ∧ Q (.int (if j > i then j else i)) H) ∨ rMax K xs H Q
def rMinA (K : PySem.W.Frag) : List V → Hp → VK → Prop := fun xs H Q => (∃ i j, xs = [.int i, .int j] ∧ Q (.int (if j < i then j else i)) H) ∨ rMin K xs H Q
theorem call_maxA (hc : X.calm = true) : CallR X (.builtin "max") (rMaxA X.K) := CallR.or (call_max2 hc) (cr_max hc)
theorem call_minA (hc : X.calm = true) : CallR X (.builtin "min") (rMinA X.K) := CallR.or (call_min2 hc) (cr_min hc)
theorem c_max : CP K (rMaxA K) oMax := fun S H h vs xs Q Q' m r q pk => by
  unfold oMax at q
  split at q
  · cases r with
    | cons r1 rn => cases rn with
      | cons r2 rn => cases rn; cases r1; cases r2; exact .inl ⟨_, _, rfl, pk S H h _ _ Fut.refl m (.int _) q⟩
  · cases r with
    | cons r1 rn =>
      cases rn
      split at q
      · rename_i ns e
        obtain ⟨a, rfl, ha⟩ := intsIn_ok m r1 e
        exact .inr ⟨a, ns, rfl, SqL.of ha, q.1, fun k hk hl => pk S H h _ _ Fut.refl m (.int _) (q.2 k hk hl)⟩
      · exact q.elim
  · exact q.elim
theorem c_min : CP K (rMinA K) oMin := fun S H h vs xs Q Q' m r q pk => by
  unfold oMin at q
  split at q
  · cases r with
    | cons r1 rn => cases rn with
      | cons r2 rn => cases rn; cases r1; cases r2; exact .inl ⟨_, _, rfl, pk S H h _ _ Fut.refl m (.int _) q⟩
  · cases r with
    | cons r1 rn =>
      cases rn
      split at q
      · rename_i ns e
        obtain ⟨a, rfl, ha⟩ := intsIn_ok m r1 e
        exact .inr ⟨a, ns, rfl, SqL.of ha, q.1, fun k hk hl => pk S H h _ _ Fut.refl m (.int _) (q.2 k hk hl)⟩
      · exact q.elim
  · exact q.elim
/-- list(x) -/
def oList (fl : Bool) : RLT := fun xs h Q => match xs with
  | [.tup ts] => mk fl ts h Q
  | [x] => match lsOf h x with
    | some ts => mk fl ts h Q
    | none => False
  | _ => False
theorem c_list (fl : Bool) : CP K (fun xs H Q => ∃ p ys, xs = [.ref p] ∧ (SqL K H p ys ∨ SqT K H p ys) ∧ ∀ l, H l = none → Q (.ref l) (upd H l (.lst ys))) (oList fl) := fun S H h vs xs Q Q' m r q pk => by
  unfold oList at q
  split at q
  · cases r with
    | cons r1 rn =>
      cases rn
      cases r1 with
      | tup s hh r => exact ⟨_, _, rfl, .inr (SqT.of hh), mk_ok m r q pk⟩
      | tupK hh r => exact ⟨_, _, rfl, .inr (.inr hh), mk_ok m r q pk⟩
  · cases r with
    | cons r1 rn =>
      cases rn
      split at q
      · rename_i ts e
        obtain ⟨a, vs, rfl, ha, r⟩ := lsOf_ok m r1 e
        exact ⟨_, _, rfl, .inl (SqL.of ha), mk_ok m r q pk⟩
      · exact q.elim
  · exact q.elim
def blsOf : List T → Option (List Bool)
  | [] => some []
  | .bl i :: ts => match blsOf ts with
    | some ns => some (i :: ns)
    | none => none
  | _ => none
theorem blsOf_ok : ∀ {ts : List T} {ns : List Bool}, blsOf ts = some ns → ts = ns.map T.bl
  | [], _, e => by cases e; rfl
  | .bl i :: ts, _, e => by
    unfold blsOf at e
    split at e
    · rename_i ns z; cases e; rw [blsOf_ok z]; rfl
    · cases e
  | .non :: _, _, e => by cases e
  | .int _ :: _, _, e => by cases e
  | .str _ :: _, _, e => by cases e
  | .tup _ :: _, _, e => by cases e
  | .lst _ :: _, _, e => by cases e
  | .ins _ _ :: _, _, e => by cases e
  | .ref _ :: _, _, e => by cases e
  | .ty _ :: _, _, e => by cases e
  | .scr _ :: _, _, e => by cases e
@[simp] theorem blsOf_map : ∀ ns : List Bool, blsOf (ns.map T.bl) = some ns
  | [] => rfl
  | n :: ns => by show (match blsOf (ns.map T.bl) with | some ms => some (n :: ms) | none => none) = _; rw [blsOf_map ns]
def oBls (g : List Bool → Bool) : RLT := fun xs h Q => match xs with
  | [x] => match (lsOf h x).bind blsOf with
    | some bs => Q (.bl (g bs)) h
    | none => False
  | _ => False
theorem c_all : CP K (rAll K) (oBls fun bs => bs.all id) := fun S H h vs xs Q Q' m r q pk => by
  unfold oBls at q
  split at q
  · cases r with
    | cons r1 rn =>
      cases rn
      split at q
      · rename_i bs e
        cases z : lsOf h _ with
        | none => rw [z] at e; cases e
        | some ts =>
          rw [z] at e
          obtain ⟨a, vs, rfl, ha, r⟩ := lsOf_ok m r1 z
          rw [blsOf_ok e] at r
          rw [r.bls] at ha
          exact ⟨a, bs, rfl, SqL.of ha, pk S H h _ _ Fut.refl m (.bl _) q⟩
      · exact q.elim
  · exact q.elim
theorem c_any : CP K (rAny K) (oBls fun bs => bs.any id) := fun S H h vs xs Q Q' m r q pk => by
  unfold oBls at q
  split at q
  · cases r with
    | cons r1 rn =>
      cases rn
      split at q
      · rename_i bs e
        cases z : lsOf h _ with
        | none => rw [z] at e; cases e
        | some ts =>
          rw [z] at e
          obtain ⟨a, vs, rfl, ha, r⟩ := lsOf_ok m r1 z
          rw [blsOf_ok e] at r
          rw [r.bls] at ha
          exact ⟨a, bs, rfl, SqL.of ha, pk S H h _ _ Fut.refl m (.bl _) q⟩
      · exact q.elim
  · exact q.elim

/-! ### a def's promise, a call of it -/
def PX (K : PySem.W.Frag) (S : Fz) (H : Hp) (E : Ex → Hq → Prop) (E' : XK) : Prop := ∀ S1 H1 h1 x cls d, Fut S H S1 H1 → Sim K S1 H1 h1 → RepX K S1 H1 cls d x → E x h1 → E' cls d H1
def liftSp (K : PySem.W.Frag) (n : Nat) (c : Con) : Sp := fun vs H Q' E' => ∃ S h ts Q E, Sim K S H h ∧ RepL K S H vs ts ∧ ts.length = n ∧ c ts h Q E ∧ PK K S H Q Q' ∧ PX K S H E E'
def eCall (n : Nat) (c : Con) (a : AM) : EM := fun s h Q E => a s h (fun ts h1 => ts.length = n ∧ c ts h1 Q fun x h2 => E x s h2) E
theorem j_call {CX : CXT} {k n : Nat} {f : Addr} {fd : FuncData} {ps : List Str} {c : Con} {x : Str} {p pos : Pos} {e : Expr} {es : List Expr} {a : AM} (F : FnOk X.prog X.w X.K X.mg X.base CX k f fd ps (liftSp X.K n c)) (hr : Room k X.A) (hg : Gl X x) (hm : X.mg x = some (.ref f))
    (hk : PySem.W.keepIn X.K (.ref f) = true) (hb : Binds X.K fd ps []) (hx : ∀ σ, PassesAt CX X σ (WE W σ)) (ha : JA X W (e :: es) a)
    (hd : (x == ("__debug__" : Str)) = false := by decide) (he : starEach (e :: es) X.env = (false, eval e X.env) :: starEach es X.env := by rfl) (hpl : (backTo pos (starEach es X.env)).any (·.1) = false := by rfl) :
    JE X W (.Call (.Name x p) (e :: es) [] pos) (eCall n c a) := PE.wk (pe_callS (E := WE W) F hr hg hm hk hb hx ha hd he hpl) fun σ H Q' ⟨S, h, s, Q, E, m, rs, lk, hm, pk⟩ =>
  ⟨S, h, s, _, E, m, rs, lk, hm, fun S1 H1 h1 vs ts f1 m1 r1 ⟨l1, q1⟩ => ⟨S1, h1, ts, Q, _, m1, r1, l1, q1, pk.fut f1, fun S2 H2 h2 x cls d f2 m2 r2 q2 => lk S2 H2 h2 σ s x cls d (f1.trans f2) m2 (rs.fut (f1.trans f2)) r2 q2⟩⟩
abbrev W0 : WX := fun _ _ _ _ => False
theorem px0 {P : Program} {w : World} (hP : X.prog = P := by rfl) (hw : X.w = w := by rfl) : ∀ σ, PassesAt (L2.CX P w) X σ (WE W0 σ) := fun σ pins H s e s' I c => by
  obtain ⟨_, _, _, _, _, _, _, _, _, _, _, _, z⟩ := c
  exact z.elim
theorem pxT {P : Program} {w : World} (tk : Takes X W) (hP : X.prog = P := by rfl) (hw : X.w = w := by rfl) : ∀ σ, PassesAt (L2.CX P w) X σ (WE W σ) := by
  subst hP hw
  exact fun σ => passAt tk σ

/-! ### methods of built-in types -/
abbrev MT := T → List T → Hq → TK → Prop
def MP (K : PySem.W.Frag) (Ty : String) (r : V → List V → Hp → VK → Prop) (o : MT) : Prop := ∀ S H h v vs x xs Q Q', Sim K S H h → Rep K S H v x → RepL K S H vs xs → o x xs h Q → PK K S H Q Q' → tyV K Ty v H ∧ r v vs H Q'
def eBM (ok : T → Hq → Prop) (o : MT) (a : EM) (r : AM) : EM := fun s h Q E => a s h (fun x h1 => ok x h1 ∧ r s h1 (fun xs h2 => o x xs h2 Q) E) E
def TyOk (K : PySem.W.Frag) (Ty : String) (ok : T → Hq → Prop) : Prop := ∀ S H h v x, Sim K S H h → Rep K S H v x → ok x h → tyV K Ty v H
def MR (K : PySem.W.Frag) (r : V → List V → Hp → VK → Prop) (o : MT) : Prop := ∀ S H h v vs x xs Q Q', Sim K S H h → Rep K S H v x → RepL K S H vs xs → o x xs h Q → PK K S H Q Q' → r v vs H Q'
theorem lift_bm {Ty : String} {ok : T → Hq → Prop} {r : V → List V → Hp → VK → Prop} {o : MT} {a : EM} {b : AM} (t : TyOk K Ty ok) (c : MR K r o) : ∀ σ H Q, liftE K W (eBM ok o a b) σ H Q → tBM K Ty r (liftE K W a) (liftA K W b) σ H Q := fun σ H Q' ⟨S, h, s, Q, E, m, rs, lk, hm, pk⟩ =>
  ⟨S, h, s, _, E, m, rs, lk, hm, fun S1 H1 h1 v x f1 m1 r1 ⟨k1, q1⟩ => ⟨t S1 H1 h1 v x m1 r1 k1, S1, h1, s, _, E, m1, rs.fut f1, lk.fut f1, q1, fun S2 H2 h2 vs xs f2 m2 r2 q2 => c S2 H2 h2 v vs x xs Q Q' m2 (r1.fut f2) r2 q2 (pk.fut (f1.trans f2))⟩⟩
def eBM0 (ok : T → Hq → Prop) (o : MT) (a : EM) : EM := fun s h Q E => a s h (fun x h1 => ok x h1 ∧ o x [] h1 Q) E
theorem lift_bm0 {Ty : String} {ok : T → Hq → Prop} {r : V → List V → Hp → VK → Prop} {o : MT} {a : EM} (t : TyOk K Ty ok) (c : MR K r o) : ∀ σ H Q, liftE K W (eBM0 ok o a) σ H Q → tBM0 K Ty r (liftE K W a) σ H Q := fun σ H Q' ⟨S, h, s, Q, E, m, rs, lk, hm, pk⟩ =>
  ⟨S, h, s, _, E, m, rs, lk, hm, fun S1 H1 h1 v x f1 m1 r1 ⟨k1, q1⟩ => ⟨t S1 H1 h1 v x m1 r1 k1, c S1 H1 h1 v [] x [] Q Q' m1 r1 .nil q1 (pk.fut f1)⟩⟩
theorem j_bm {Ty : String} {name : Str} {id : String} {o : Expr} {e : Expr} {es : List Expr} {ok : T → Hq → Prop} {r : V → List V → Hp → VK → Prop} {q : MT} {a : EM} {b : AM} {apos cpos : Pos} (pa : PlainAttrs Ty) (slot : Slot Ty name id) (hty : typeOf (.builtin id) = pure (.type "method_descriptor")) (hm : MtR X id r) (t : TyOk X.K Ty ok) (c : MR X.K r q) (ho : JE X W o a) (ha : JA X W (e :: es) b)
    (hbase : attributeBase o name X.env (eval o X.env) = eval o X.env := by rfl)
    (hfew : ((backTo cpos (starEach (e :: es) X.env)).all (fun x => !x.1) && (backToKw cpos (keywordEach [] X.env)).all (fun x => x.1.isSome)
      && decide ((e :: es).length + ([] : List Keyword).length + (if ([] : List Keyword).isEmpty then 0 else 1) < 30)) = true := by rfl) (hline : (apos.endLine == cpos.line) = true := by rfl)
    (hs : starEach (e :: es) X.env = (false, eval e X.env) :: starEach es X.env := by rfl) (hplain : ((backTo cpos (starEach es X.env)).any fun x => x.fst) = false := by rfl) :
    JE X W (.Call (.Attribute o name apos) (e :: es) [] cpos) (eBM ok q a b) := PE.wk (pe_bm pa slot hty hm ho ha (hbase := hbase) (hfew := hfew) (hline := hline) (hs := hs) (hplain := hplain)) (lift_bm t c)
theorem j_bm0 {Ty : String} {name : Str} {id : String} {o : Expr} {ok : T → Hq → Prop} {r : V → List V → Hp → VK → Prop} {q : MT} {a : EM} {apos cpos : Pos} (pa : PlainAttrs Ty) (slot : Slot Ty name id) (hty : typeOf (.builtin id) = pure (.type "method_descriptor")) (hm : MtR X id r) (t : TyOk X.K Ty ok) (c : MR X.K r q) (ho : JE X W o a)
    (hbase : attributeBase o name X.env (eval o X.env) = eval o X.env := by rfl) (hline : (apos.endLine == cpos.line) = true := by rfl) :
    JE X W (.Call (.Attribute o name apos) [] [] cpos) (eBM0 ok q a) := PE.wk (pe_bm0 pa slot hty hm ho hbase hline) (lift_bm0 t c)
def isLs : T → Hq → Prop := fun x h => (lsOf h x).isSome = true
theorem ty_list : TyOk K "list" isLs := fun S H h v x m r k => by
  unfold isLs at k
  cases z : lsOf h x with
  | none => rw [z] at k; cases k
  | some ts =>
    obtain ⟨a, vs, rfl, ha, _⟩ := lsOf_ok m r z
    exact .inl ⟨rfl, vs, SqL.of ha⟩
def oApp : MT := fun x xs h Q => match x, xs with
  | .ref p, [y] => match h p with
    | some (.lst ts) => ts.length < lim ∧ Q .non (put h p (.lst (ts ++ [y])))
    | _ => False
  | _, _ => False
theorem ref_lst (m : Sim K S H h) {p : Addr} {ts : List T} (e : h p = some (.lst ts)) : ∃ vs, H p = some (.lst vs) ∧ RepL K S H vs ts := by
  obtain ⟨u, e1, vs, e2, r2⟩ := m.ob p _ e
  subst e2
  exact ⟨vs, e1, r2⟩
theorem c_app : MR K rAppend oApp := fun S H h v vs x xs Q Q' m r1 r2 q pk => by
  unfold oApp at q
  split at q
  · split at q
    · rename_i ts e
      cases r1
      cases r2 with
      | cons ry rn =>
        cases rn
        obtain ⟨vs, e1, r⟩ := ref_lst m e
        refine ⟨_, vs, _, rfl, rfl, e1, lim_lt (by rw [r.length]; exact Nat.le_of_lt q.1), ?_⟩
        exact pk S _ _ _ _ (fut_upd (m.nS' e)) (m.write (o' := .lst (ts ++ [_])) e ⟨_, rfl, r.append (.cons ry .nil)⟩) .non q.2
    · exact q.elim
  · exact q.elim
def oPop : MT := fun x xs h Q => match x, xs with
  | .ref p, [] => match h p with
    | some (.lst ts) => match ts[ts.length - 1]? with
      | some y => Q y (put h p (.lst ts.dropLast))
      | none => False
    | _ => False
  | _, _ => False
theorem c_pop : MR K rPop oPop := fun S H h v vs x xs Q Q' m r1 r2 q pk => by
  unfold oPop at q
  split at q
  · split at q
    · rename_i ts e
      cases r1
      cases r2
      obtain ⟨vs, e1, r⟩ := ref_lst m e
      split at q
      · rename_i y ey
        rw [← r.length] at ey
        obtain ⟨v, ev, rv⟩ := r.get ey
        refine ⟨_, vs, v, rfl, rfl, e1, ev, ?_⟩
        have f : Fut S H S (upd H _ (.lst vs.dropLast)) := fut_upd (m.nS' e)
        exact pk S _ _ _ _ f (m.write (o' := .lst ts.dropLast) e ⟨_, rfl, r.dropLast⟩) (rv.fut f) q
      · exact q.elim
    · exact q.elim
  · exact q.elim
def oExt : MT := fun x xs h Q => match x, xs with
  | .ref p, [y] => match h p, lsOf h y with
    | some (.lst ts), some us => ts.length + us.length ≤ lim ∧ Q .non (put h p (.lst (ts ++ us)))
    | _, _ => False
  | _, _ => False
theorem c_ext : MR K rExtend oExt := fun S H h v vs x xs Q Q' m r1 r2 q pk => by
  unfold oExt at q
  split at q
  · split at q
    · rename_i ts us e eu
      cases r1
      cases r2 with
      | cons ry rn =>
        cases rn
        obtain ⟨vs, e1, r⟩ := ref_lst m e
        obtain ⟨b, ws, rfl, hb, rb⟩ := lsOf_ok m ry eu
        refine ⟨_, b, vs, ws, rfl, rfl, e1, hb, lim_le (by rw [r.length, rb.length]; exact q.1), ?_⟩
        exact pk S _ _ _ _ (fut_upd (m.nS' e)) (m.write (o' := .lst (ts ++ us)) e ⟨_, rfl, r.append rb⟩) .non q.2
    · exact q.elim
  · exact q.elim
end
end TL

namespace TL
open PySem L2
section
variable {X : Cx} {W : WX} {K : PySem.W.Frag} {S : Fz} {H : Hp} {h : Hq}
/-! ### truth of a value -/
def tTru (a : EM) : TM := fun s h Q E => a s h (fun x h1 => match x with
  | .non => Q false h1
  | .bl b => Q b h1
  | .int i => Q (i != 0) h1
  | .str z => z.length ≤ lim ∧ Q ((z.length : Int) != 0) h1
  | .tup ts => Q (!ts.isEmpty) h1
  | x => match lsOf h1 x with
    | some ts => Q (!ts.isEmpty) h1
    | none => False) E
theorem RepL.isEmpty {vs : List V} {ts : List T} (r : RepL K S H vs ts) : vs.isEmpty = ts.isEmpty := by cases r <;> rfl
theorem jt_tru {a : Expr} {m : EM} (ha : JE X W a m) (he : ∀ whole, isTrue a X.env whole = (do let v ← whole; standAt a.pos; holding [v] (truthy v)) := by intro _; rfl) : JT X W a (tTru m) := PT.wk (pt_truth ha he) fun σ H Q' ⟨S, h, s, Q, E, m, rs, lk, hm, pk⟩ =>
  ⟨S, h, s, _, E, m, rs, lk, hm, fun S1 H1 h1 v x f1 m1 r1 q1 => by
    split at q1
    · cases r1; exact ⟨false, rfl, pk S1 H1 h1 _ f1 m1 q1⟩
    · cases r1; exact ⟨_, rfl, pk S1 H1 h1 _ f1 m1 q1⟩
    · cases r1; exact ⟨_, rfl, pk S1 H1 h1 _ f1 m1 q1⟩
    · cases r1; exact ⟨_, ⟨lim_le q1.1, rfl⟩, pk S1 H1 h1 _ f1 m1 q1.2⟩
    · cases r1 with
      | tup s hh r => exact ⟨_, .inr (.inl ⟨_, SqT.of hh, by rw [r.isEmpty]⟩), pk S1 H1 h1 _ f1 m1 q1⟩
      | tupK hh r => exact ⟨_, .inr (.inl ⟨_, .inr hh, by rw [r.isEmpty]⟩), pk S1 H1 h1 _ f1 m1 q1⟩
    · split at q1
      · rename_i ts e
        obtain ⟨a, vs, rfl, ha, r⟩ := lsOf_ok m1 r1 e
        exact ⟨_, .inl ⟨_, SqL.of ha, by rw [r.isEmpty]⟩, pk S1 H1 h1 _ f1 m1 q1⟩
      · exact q1.elim⟩

/-! ### statements -/
def sNext : SM := fun D s h => D.nx s h
def sSeq (a b : SM) : SM := fun D s h => a { D with nx := b D } s h
def sDrop (a : EM) : SM := fun D s h => a s h (fun _ h1 => D.nx s h1) D.ex
def sRet (a : EM) : SM := fun D s h => a s h D.rt D.ex
def sRetN : SM := fun D _ h => D.rt .non h
def sIf (c : TM) (a b : SM) : SM := fun D s h => c s h (fun d h1 => if d = true then a D s h1 else b D s h1) D.ex
def sBreak : SM := fun D s h => D.bk s h
def sCont : SM := fun D s h => D.ct s h
def sNever : SM := fun _ _ _ => False
theorem js_pass {pos : Pos} : JS X W (.Pass pos) sNext := PS.wk ps_pass fun D' σ H ⟨S, h, s, D, m, rs, lk, hm⟩ => lk.nx S H h σ s Fut.refl m rs hm
theorem js_break {pos : Pos} : JS X W (.Break pos) sBreak := PS.wk ps_break fun D' σ H ⟨S, h, s, D, m, rs, lk, hm⟩ => lk.bk S H h σ s Fut.refl m rs hm
theorem js_cont {pos : Pos} : JS X W (.Continue pos) sCont := PS.wk ps_continue fun D' σ H ⟨S, h, s, D, m, rs, lk, hm⟩ => lk.ct S H h σ s Fut.refl m rs hm
theorem js_never {st : Stmt} : JS X W st sNever := PS.wk ps_never fun D' σ H ⟨S, h, s, D, m, rs, lk, hm⟩ => hm
theorem jss_nil : JSs X W [] sNext := PSs.wk pss_nil fun D' σ H ⟨S, h, s, D, m, rs, lk, hm⟩ => lk.nx S H h σ s Fut.refl m rs hm
theorem jss_one {st : Stmt} {a : SM} (ha : JS X W st a) : JSs X W [st] a := pss_one ha
theorem jss_cons {st : Stmt} {rest : List Stmt} {a b : SM} (ha : JS X W st a) (hb : JSs X W rest b) : JSs X W (st :: rest) (sSeq a b) := PSs.wk (pss_cons ha hb) fun D' σ H ⟨S, h, s, D, m, rs, lk, hm⟩ =>
  ⟨S, h, s, { D with nx := b D }, m, rs, { nx := fun S1 H1 h1 σ1 s1 f1 m1 r1 q1 => ⟨S1, h1, s1, D, m1, r1, lk.fut f1, q1⟩, rt := lk.rt, bk := lk.bk, ct := lk.ct, ex := lk.ex }, hm⟩
theorem js_expr {e : Expr} {a : EM} {pos : Pos} (ha : JE X W e a) (hs : swapsWith e none pos.line X.env = pure false := by rfl) : JS X W (.Expr e pos) (sDrop a) := PS.wk (ps_expr ha hs) fun D' σ H ⟨S, h, s, D, m, rs, lk, hm⟩ =>
  ⟨S, h, s, _, D.ex, m, rs, lk.ex, hm, fun S1 H1 h1 v x f1 m1 r1 q1 => lk.nx S1 H1 h1 σ s f1 m1 (rs.fut f1) q1⟩
theorem js_doc {x j pos pos'} : JS X W (.Expr (.Constant (.str x) j pos) pos') sNext := PS.wk ps_doc fun D' σ H ⟨S, h, s, D, m, rs, lk, hm⟩ => lk.nx S H h σ s Fut.refl m rs hm
theorem js_ret {e : Expr} {a : EM} {pos : Pos} (ha : JE X W e a) : JS X W (.Return (some e) pos) (sRet a) := PS.wk (ps_ret ha) fun D' σ H ⟨S, h, s, D, m, rs, lk, hm⟩ => ⟨S, h, s, _, D.ex, m, rs, lk.ex, hm, lk.rt⟩
theorem js_retN {pos : Pos} : JS X W (.Return none pos) sRetN := PS.wk ps_retN fun D' σ H ⟨S, h, s, D, m, rs, lk, hm⟩ => lk.rt S H h _ _ Fut.refl m .non hm
theorem js_if {c : Expr} {as bs : List Stmt} {mc : TM} {a b : SM} {pos : Pos} (hc : JT X W c mc) (ha : JSs X W as a) (hb : JSs X W bs b) : JS X W (.If c as bs pos) (sIf mc a b) := PS.wk (ps_if hc ha hb) fun D' σ H ⟨S, h, s, D, m, rs, lk, hm⟩ =>
  ⟨S, h, s, _, D.ex, m, rs, lk.ex, hm, fun S1 H1 h1 d f1 m1 q1 => by
    cases d with
    | true => rw [if_pos rfl] at q1 ⊢; exact ⟨S1, h1, s, D, m1, rs.fut f1, lk.fut f1, q1⟩
    | false => rw [if_neg Bool.false_ne_true] at q1 ⊢; exact ⟨S1, h1, s, D, m1, rs.fut f1, lk.fut f1, q1⟩⟩

/-! ### targets -/
def gN (i : Nat) : GM := fun t s h Q _ => Q (s.set i (some t)) h
theorem jg_name {i : Nat} {x : Str} {pos : Pos} (hN : X.N.Nodup) (hi : X.N[i]? = some x) (hx : Loc X.env.scope x) (hf : X.fn x = true ∨ X.env.scope.names.lookup x = some .local := by first | exact .inl rfl | exact .inr rfl | assumption) : JG X W (.Name x pos) (gN i) := PG.wk (pg_name hN hi hx hf) fun v σ H Q' ⟨S, h, s, t, Q, E, m, rs, r, lk, hm, pk⟩ => pk S H h _ _ Fut.refl m (rs.set r i) hm
def gNil : GMs := fun ts s h Q _ => ts = [] ∧ Q s h
def gCons (a : GM) (b : GMs) : GMs := fun ts s h Q E => match ts with
  | t :: r => a t s h (fun s1 h1 => b r s1 h1 Q E) E
  | [] => False
theorem jgs_nil : JGs X W [] gNil := PGs.wk pgs_nil fun v σ H Q' ⟨S, h, s, t, Q, E, m, rs, r, lk, hm, pk⟩ => by
  obtain ⟨rfl, hm⟩ := hm
  cases r
  exact ⟨rfl, pk S H h _ _ Fut.refl m rs hm⟩
theorem jgs_cons {e : Expr} {es : List Expr} {a : GM} {b : GMs} (ha : JG X W e a) (hb : JGs X W es b) (hs : (assignEach (e :: es) X.env).map (·.2) = assign e X.env :: (assignEach es X.env).map (·.2) := by rfl) : JGs X W (e :: es) (gCons a b) := PGs.wk (pgs_cons ha hb hs) fun v σ H Q' ⟨S, h, s, t, Q, E, m, rs, r, lk, hm, pk⟩ => by
  cases r with
  | nil => exact hm.elim
  | cons r1 rn => exact ⟨_, _, rfl, S, h, s, _, _, E, m, rs, r1, lk, hm, fun S1 H1 h1 σ1 s1 f1 m1 q1 k1 => ⟨S1, h1, s1, _, Q, E, m1, q1, rn.fut f1, lk.fut f1, k1, pk.fut f1⟩⟩
def gTup (n : Nat) (b : GMs) : GM := fun t s h Q E => match t with
  | .tup ts => ts.length = n ∧ b ts s h Q E
  | _ => False
theorem jg_tup {es : List Expr} {k n : Nat} {b : GMs} {pos : Pos} (hc : X.calm = true) (hb : JGs X W es b) (hn : (assignEach es X.env).length = n := by rfl) (hst : (assignEach es X.env).findIdx? (·.1) = none := by rfl) : JG X W (.Tuple es k pos) (gTup n b) := PG.wk (pg_tup hc hb hn hst) fun v σ H Q' ⟨S, h, s, t, Q, E, m, rs, r, lk, hm, pk⟩ => by
  unfold gTup at hm
  split at hm
  · cases r with
    | tup s hh r => exact ⟨_, _, rfl, SqT.of hh, by rw [r.length]; exact hm.1, S, h, _, _, Q, E, m, rs, r, lk, hm.2, pk⟩
    | tupK hh r => exact ⟨_, _, rfl, .inr hh, by rw [r.length]; exact hm.1, S, h, _, _, Q, E, m, rs, r, lk, hm.2, pk⟩
  · exact hm.elim
def setT (o i v : T) (h : Hq) (Q : Hq → Prop) : Prop := match o, i with
  | .ref p, .int k => match h p with
    | some (.lst ts) => match ixN ts.length k with
      | some j => Q (put h p (.lst (ts.set j v)))
      | none => False
    | _ => False
  | _, _ => False
theorem setT_ok (m : Sim K S H h) {o i v : V} {to ti tv : T} {Q : Hq → Prop} {Q' : Hp → Prop} (ro : Rep K S H o to) (ri : Rep K S H i ti) (rv : Rep K S H v tv) (q : setT to ti tv h Q) (pk : ∀ H1 h1, Fut S H S H1 → Sim K S H1 h1 → Q h1 → Q' H1) : rSetL o i v H Q' := by
  unfold setT at q
  split at q
  · split at q
    · split at q
      · rename_i ts e _ j ej
        cases ro
        cases ri
        obtain ⟨vs, e1, r⟩ := ref_lst m e
        refine ⟨_, vs, _, j, rfl, rfl, e1, by rw [r.length]; exact ej, ?_⟩
        exact pk _ _ (fut_upd (m.nS' e)) (m.write (o' := .lst (ts.set j tv)) e ⟨_, rfl, r.set rv j⟩) q
      · exact q.elim
    · exact q.elim
  · exact q.elim
def gSub (a b : EM) : GM := fun v s h Q E => a s h (fun o h1 => b s h1 (fun i h2 => setT o i v h2 fun h3 => Q s h3) E) E
theorem jg_sub {o i : Expr} {a b : EM} {pos : Pos} (ho : JE X W o a) (hi : JE X W i b)
    (ha : ∀ v, assign (.Subscript o i pos) X.env v = (do
      let ov ← holding [v] (eval o X.env)
      let iv ← holding [v, ov] (eval i X.env)
      standAt pos
      holding [v, ov, iv] (setItem ov iv v)
      release [v, ov, iv] []) := by intro _; rfl) : JG X W (.Subscript o i pos) (gSub a b) := PG.wk (pg_sub ho hi set_list ha) fun v σ H Q' ⟨S, h, s, t, Q, E, m, rs, r, lk, hm, pk⟩ =>
  ⟨S, h, s, _, E, m, rs, lk, hm, fun S1 H1 h1 vo to f1 m1 r1 q1 => ⟨S1, h1, s, _, E, m1, rs.fut f1, lk.fut f1, q1, fun S2 H2 h2 vi ti f2 m2 r2 q2 =>
    setT_ok m2 (r1.fut f2) r2 (r.fut (f1.trans f2)) q2 fun H3 h3 f3 m3 q3 => pk S2 H3 h3 σ s ((f1.trans f2).trans f3) m3 (rs.fut ((f1.trans f2).trans f3)) q3⟩⟩
def sAsg (a : EM) (g : GM) : SM := fun D s h => a s h (fun x h1 => g x s h1 D.nx D.ex) D.ex
theorem js_asg {tg e : Expr} {a : EM} {g : GM} {pos : Pos} (ha : JE X W e a) (hg : JG X W tg g) (hs : swapsWithSole [tg] e pos.line X.env = pure false := by rfl) (hw : swappedStores [tg] e X.env = pure none := by rfl) (h1 : (assignEach [tg] X.env).map (·.2) = [assign tg X.env] := by rfl) : JS X W (.Assign [tg] e pos) (sAsg a g) := PS.wk (ps_asg ha hg hs hw h1) fun D' σ H ⟨S, h, s, D, m, rs, lk, hm⟩ =>
  ⟨S, h, s, _, D.ex, m, rs, lk.ex, hm, fun S1 H1 h1 v x f1 m1 r1 q1 => ⟨S1, h1, s, x, D.nx, D.ex, m1, rs.fut f1, r1, lk.ex.fut f1, q1, lk.nx.fut f1⟩⟩
theorem js_set {i : Nat} {x : Str} {e : Expr} {a : EM} {pos pos' : Pos} (hN : X.N.Nodup) (hi : X.N[i]? = some x) (hx : Loc X.env.scope x) (ha : JE X W e a) (hs : swapsWith e (some (.Name x pos')) pos.line X.env = pure false := by rfl) (hf : X.fn x = true ∨ X.env.scope.names.lookup x = some .local := by first | exact .inl rfl | exact .inr rfl | assumption) :
    JS X W (.Assign [.Name x pos'] e pos) (sAsg a (gN i)) := PS.wk (ps_set hN hi hx ha hs hf) fun D' σ H ⟨S, h, s, D, m, rs, lk, hm⟩ =>
  ⟨S, h, s, _, D.ex, m, rs, lk.ex, hm, fun S1 H1 h1 v x f1 m1 r1 q1 => lk.nx S1 H1 h1 _ _ f1 m1 ((rs.fut f1).set r1 i) q1⟩
def sPar (i j : Nat) (a : AM) : SM := fun D s h => a s h (fun ts h1 => match ts with
  | [x, y] => D.nx ((s.set i (some x)).set j (some y)) h1
  | _ => False) D.ex
theorem js_par {i j : Nat} {x y : Str} {a b : Expr} {m : AM} {px py pt : Pos} {kt k2 pt2} {pos : Pos} (hc : X.calm = true) (hN : X.N.Nodup) (hi : X.N[i]? = some x) (hj : X.N[j]? = some y) (hij : i ≠ j)
    (hx : X.env.scope.names.lookup x = some .local) (hy : X.env.scope.names.lookup y = some .local) (ha : JA X W [a, b] m)
    (hw : swappedStores [.Tuple [.Name x px, .Name y py] kt pt] (.Tuple [a, b] k2 pt2) X.env = pure (some [x, y]))
    (hs : swapsWithSole [.Tuple [.Name x px, .Name y py] kt pt] (.Tuple [a, b] k2 pt2) pos.line X.env = pure false := by rfl) :
    JS X W (.Assign [.Tuple [.Name x px, .Name y py] kt pt] (.Tuple [a, b] k2 pt2) pos) (sPar i j m) := PS.wk (ps_par hc hN hi hj hij hx hy ha hw hs) fun D' σ H ⟨S, h, s, D, m, rs, lk, hm⟩ =>
  ⟨S, h, s, _, D.ex, m, rs, lk.ex, hm, fun S1 H1 h1 vs ts f1 m1 r1 q1 => by
    split at q1
    · cases r1 with
      | cons ra rn => cases rn with
        | cons rb rn => cases rn; exact ⟨_, _, rfl, lk.nx S1 H1 h1 _ _ f1 m1 (((rs.fut f1).set ra i).set rb j) q1⟩
    · exact q1.elim⟩
def sAug (i : Nat) (a : EM) (o : R2T) : SM := fun D s h => match s[i]? with
  | some (some x) => a s h (fun y h1 => o x y h1 fun z h2 => D.nx (s.set i (some z)) h2) D.ex
  | _ => False
theorem js_aug {i : Nat} {x : Str} {e : Expr} {a : EM} {op : Operator} {ti : TIp} {o : R2T} {pos pos' : Pos} (hN : X.N.Nodup) (hi : X.N[i]? = some x) (hx : Loc X.env.scope x) (ha : JE X W e a) (ho : PIp X op ti) (p : OP X.K ti o) (hf : X.fn x = true ∨ X.env.scope.names.lookup x = some .local := by first | exact .inl rfl | exact .inr rfl | assumption) :
    JS X W (.AugAssign (.Name x pos') op e pos) (sAug i a o) := PS.wk (ps_aug hN hi hx ha ho hf) fun D' σ H ⟨S, h, s, D, m, rs, lk, hm⟩ => by
  unfold sAug at hm
  split at hm
  · rename_i t e
    obtain ⟨v, e1, r⟩ := rs.at_ i t e
    exact ⟨v, e1, S, h, s, _, D.ex, m, rs, lk.ex, hm, fun S1 H1 h1 w y f1 m1 r1 q1 => p S1 H1 h1 v w t y _ _ m1 (r.fut f1) r1 q1 fun S2 H2 h2 u z f2 m2 r2 q2 => lk.nx S2 H2 h2 _ _ (f1.trans f2) m2 ((rs.fut (f1.trans f2)).set r2 i) q2⟩
  · exact hm.elim
/-- xs[i] by values -/
theorem get_list : PGet X (rIxL X.K) := by
  intro pins s σ H o i ov iv Q I ro ri h
  obtain ⟨p, xs, k, z, rfl, rfl, hq, he, q⟩ := h
  cases ro
  obtain ⟨t, rfl⟩ := ri
  obtain ⟨its, r, pl, hz⟩ := I.list hq
  obtain ⟨j, h1, h2, h3, h4, h5⟩ := atI_get he
  obtain ⟨w, ew, rw'⟩ := r.get h2
  have hl := r.length
  have hn := line63
  have fin : EP X pins σ Q w s := ⟨z, H, I, rw', q⟩
  by_cases h0 : 0 ≤ k
  · have hj : k.toNat = j := by
      rw [PySem.seqIndex_of h0 h5] at h1
      exact Option.some.inj h1
    exact wpAny_getItem_list pl.isList h0 (by omega) (by rw [hj]; simpa using ew) fin
  · have hj : (k + (its.toArray.size : Int)).toNat = j := by
      rw [PySem.seqIndex_neg (by omega) h4] at h1
      rw [List.size_toArray, ← hl]
      exact Option.some.inj h1
    exact wpAny_getItem_list_neg pl.isList (by omega) (by rw [List.size_toArray] <;> omega) (by omega) (by rw [hj]; simpa using ew) fin
def oIxL : R2T := fun x y h Q => match y with
  | .int i => match lsOf h x with
    | some ts => atK ts i h Q
    | none => False
  | _ => False
theorem p_ixL : OP K (rIxL K) oIxL := fun S H h v w x y Q Q' m r1 r2 q pk => by
  unfold oIxL at q
  split at q
  · split at q
    · rename_i ts e
      cases r2
      obtain ⟨a, vs, rfl, ha, r⟩ := lsOf_ok m r1 e
      obtain ⟨u, e, q'⟩ := atK_ok m r q pk
      exact ⟨a, vs, _, u, rfl, rfl, SqL.of ha, e, q'⟩
    · exact q.elim
  · exact q.elim
def sAugS (a b e : EM) (o : R2T) : SM := fun D s h => a s h (fun x h1 => b s h1 (fun i h2 => oIxL x i h2 fun y h3 => e s h3 (fun z h4 => o y z h4 fun w h5 => setT x i w h5 fun h6 => D.nx s h6) D.ex) D.ex) D.ex
theorem js_augS {o i e : Expr} {a b c : EM} {op : Operator} {ti : TIp} {u : R2T} {pos tpos : Pos} (ho : JE X W o a) (hi : JE X W i b) (he : JE X W e c) (hp : PIp X op ti) (p : OP X.K ti u)
    (ha : ∀ ov iv new, augStore i ov iv new = (do holding [new, ov, iv] (setItem ov iv new); release [new, ov, iv] []; pure .next) := by intros; rfl) : JS X W (.AugAssign (.Subscript o i tpos) op e pos) (sAugS a b c u) := PS.wk (ps_augS ho hi get_list he hp set_list ha) fun D' σ H ⟨S, h, s, D, m, rs, lk, hm⟩ =>
  ⟨S, h, s, _, D.ex, m, rs, lk.ex, hm, fun S1 H1 h1 vo to f1 m1 r1 q1 => ⟨S1, h1, s, _, D.ex, m1, rs.fut f1, lk.ex.fut f1, q1, fun S2 H2 h2 vi ti f2 m2 r2 q2 =>
    p_ixL S2 H2 h2 vo vi to ti _ _ m2 (r1.fut f2) r2 q2 fun S3 H3 h3 vy y f3 m3 r3 q3 => ⟨S3, h3, s, _, D.ex, m3, rs.fut ((f1.trans f2).trans f3), lk.ex.fut ((f1.trans f2).trans f3), q3, fun S4 H4 h4 vz z f4 m4 r4 q4 =>
      p S4 H4 h4 vy vz y z _ _ m4 (r3.fut f4) r4 q4 fun S5 H5 h5 vw w f5 m5 r5 q5 => setT_ok m5 (r1.fut (((f2.trans f3).trans f4).trans f5)) (r2.fut ((f3.trans f4).trans f5)) r5 q5 fun H6 h6 f6 m6 q6 =>
        lk.nx S5 H6 h6 σ s (((((f1.trans f2).trans f3).trans f4).trans f5).trans f6) m6 (rs.fut (((((f1.trans f2).trans f3).trans f4).trans f5).trans f6)) q6⟩⟩⟩
def oAddI : R2T := oI fun i j => .int (i + j)
theorem p_iadd : OP K (ipI fun i j => i + j) oAddI := fun S H h v w x y Q Q' m r1 r2 q pk => (op_I (g := fun i j => .int (i + j)) (g' := fun i j => .int (i + j)) (fun _ _ _ _ => .int _)) S H h v w x y Q Q' m r1 r2 q pk
theorem p_isub : OP K (ipI fun i j => i - j) oSub := fun S H h v w x y Q Q' m r1 r2 q pk => (op_I (g := fun i j => .int (i - j)) (g' := fun i j => .int (i - j)) (fun _ _ _ _ => .int _)) S H h v w x y Q Q' m r1 r2 q pk

/-! ### while, for -/
def sWhile (c : TM) (b : SM) : SM := fun D s h => ∃ I : Nat → SK, (∃ n, I n s h) ∧ ∀ n s h, I n s h → c s h (fun d h1 => if d = true then b { D with nx := fun s' h' => ∃ n', n' < n ∧ I n' s' h', ct := fun s' h' => ∃ n', n' < n ∧ I n' s' h', bk := D.nx } s h1 else D.nx s h1) D.ex
theorem js_while {c : Expr} {body : List Stmt} {mc : TM} {b : SM} {pos : Pos} (hp : PassesOwn (model X.prog X.w) X.A X.env X.xe) (hc : JT X W c mc) (hb : JSs X W body b) : JS X W (.While c body [] pos) (sWhile mc b) := PS.wk (ps_while hp hc hb) fun D' σ H ⟨S, h, s, D, m, rs, lk, hm⟩ => by
  obtain ⟨I, ⟨n, i0⟩, step⟩ := hm
  refine ⟨fun n σ1 H1 => ∃ S1 h1 s1, Fut S H S1 H1 ∧ Sim X.K S1 H1 h1 ∧ RepS X.K S1 H1 σ1 s1 ∧ I n s1 h1, ⟨n, S, h, s, Fut.refl, m, rs, i0⟩, ?_⟩
  rintro n σ1 H1 ⟨S1, h1, s1, f1, m1, r1, i1⟩
  refine ⟨S1, h1, s1, _, D.ex, m1, r1, lk.ex.fut f1, step n s1 h1 i1, fun S2 H2 h2 d f2 m2 q2 => ?_⟩
  cases d with
  | true =>
    rw [if_pos rfl] at q2 ⊢
    have nxt : PSl X.K S2 H2 (fun s' h' => ∃ n', n' < n ∧ I n' s' h') (fun σ' H' => ∃ n', n' < n ∧ ∃ S1 h1 s1, Fut S H S1 H' ∧ Sim X.K S1 H' h1 ∧ RepS X.K S1 H' σ' s1 ∧ I n' s1 h1) := fun S3 H3 h3 σ3 s3 f3 m3 r3 ⟨n', hn, i3⟩ => ⟨n', hn, S3, h3, s3, (f1.trans f2).trans f3, m3, r3, i3⟩
    exact ⟨_, fun σ' H' q => q, S2, h2, s1, { D with nx := fun s' h' => ∃ n', n' < n ∧ I n' s' h', ct := fun s' h' => ∃ n', n' < n ∧ I n' s' h', bk := D.nx }, m2, r1.fut f2, { nx := nxt, rt := lk.rt.fut (f1.trans f2), bk := lk.nx.fut (f1.trans f2), ct := nxt, ex := lk.ex.fut (f1.trans f2) }, q2⟩
  | false =>
    rw [if_neg Bool.false_ne_true] at q2 ⊢
    exact lk.nx S2 H2 h2 σ1 s1 (f1.trans f2) m2 (r1.fut f2) q2
def ForK (ts : List T) (stay : Hq → Prop) (g : GM) (b : SM) (D : En) (s : Sl) (h1 : Hq) : Prop := ∃ I : Nat → SK, I 0 s h1 ∧ ∀ i s h, i ≤ ts.length → I i s h → stay h ∧ match ts[i]? with
  | none => D.nx s h
  | some t => g t s h (fun s2 h2 => b { D with nx := I (i + 1), ct := I (i + 1), bk := D.nx } s2 h2) D.ex
def sFor (src : IM) (g : GM) (b : SM) : SM := fun D s h => src s h (fun ts stay h1 => ForK ts stay g b D s h1) D.ex
theorem js_for {tg iter : Expr} {body : List Stmt} {src : IM} {g : GM} {b : SM} {pos : Pos} (hp : PassesOwn (model X.prog X.w) X.A X.env X.xe) (hc : X.calm = true) (hi : JI X W tg iter src) (hg : JG X W tg g) (hb : JSs X W body b) (hs : ∀ x, foldedSetIterable iter X.env x = pure x := by intro _; rfl) :
    JS X W (.For tg iter body [] pos) (sFor src g b) := PS.wk (ps_for hp hc hi hg hb hs) fun D' σ H ⟨S, h, s, D, m, rs, lk, hm⟩ => by
  refine ⟨S, h, s, _, D.ex, m, rs, lk.ex, hm, fun S1 H1 h1 J ts stay f1 m1 it q => ?_⟩
  obtain ⟨I, i0, step⟩ := q
  refine ⟨fun i n σ2 H2 => n = ts.length - i ∧ i ≤ ts.length ∧ ∃ S2 h2 s2, Fut S1 H1 S2 H2 ∧ Sim X.K S2 H2 h2 ∧ RepS X.K S2 H2 σ2 s2 ∧ I i s2 h2, ⟨ts.length, by simp, Nat.zero_le _, S1, h1, s, Fut.refl, m1, rs.fut f1, i0⟩, ?_⟩
  rintro i n σ2 H2 ⟨en, hi, S2, h2, s2, f2, m2, r2, i2⟩
  obtain ⟨st, q2⟩ := step i s2 h2 hi i2
  obtain ⟨go, stop⟩ := it S2 H2 h2 f2.fu m2 st
  cases e : ts[i]? with
  | none =>
    rw [e] at q2
    have hl : i = ts.length := Nat.le_antisymm hi (List.getElem?_eq_none_iff.mp e)
    exact .inl ⟨by rw [hl]; exact stop, lk.nx S2 H2 h2 σ2 s2 (f1.trans f2) m2 r2 q2⟩
  | some t =>
    rw [e] at q2
    have hl : i < ts.length := (List.getElem?_eq_some_iff.mp e).1
    obtain ⟨g1, g2⟩ := go i t e
    refine .inr ⟨g1, fun σ' H' => ∃ S3 h3 s3, Fut S1 H1 S3 H' ∧ Sim X.K S3 H' h3 ∧ RepS X.K S3 H' σ' s3 ∧ I (i + 1) s3 h3, fun σ' H' q => ⟨ts.length - (i + 1), by omega, rfl, hl, q⟩, fun x H3 y => ?_⟩
    obtain ⟨S3, f3, m3, r3⟩ := g2 x H3 y
    refine ⟨S3, h2, s2, t, _, D.ex, m3, r2.fut f3, r3, lk.ex.fut ((f1.trans f2).trans f3), q2, fun S4 H4 h4 σ4 s4 f4 m4 r4 q4 => ?_⟩
    have nxt : PSl X.K S4 H4 (I (i + 1)) (fun σ' H' => ∃ S3 h3 s3, Fut S1 H1 S3 H' ∧ Sim X.K S3 H' h3 ∧ RepS X.K S3 H' σ' s3 ∧ I (i + 1) s3 h3) := fun S5 H5 h5 σ5 s5 f5 m5 r5 q5 => ⟨S5, h5, s5, ((f2.trans f3).trans f4).trans f5, m5, r5, q5⟩
    have fa := ((f1.trans f2).trans f3).trans f4
    exact ⟨S4, h4, s4, { D with nx := I (i + 1), ct := I (i + 1), bk := D.nx }, m4, r4, { nx := nxt, rt := lk.rt.fut fa, bk := lk.nx.fut fa, ct := nxt, ex := lk.ex.fut fa }, q4⟩

/-! ### what is walked -/
def iSeq (a : EM) : IM := fun s h Q E => a s h (fun x h1 => match x with
  | .lst ts => Q ts (fun _ => True) h1
  | .scr ns => Q (ns.map T.int) (fun _ => True) h1
  | .ref p => match h1 p with
    | some (.lst ts) => Q ts (fun h2 => h2 p = some (.lst ts)) h1
    | _ => False
  | _ => False) E
theorem seq_it {a : Addr} {vs : List V} {ts : List T} {stay : Hq → Prop} (hl : ∀ S1 H1 h1, Fu S H S1 H1 → Sim K S1 H1 h1 → stay h1 → SqL K H1 a vs) (r : ∀ S1 H1 h1, Fu S H S1 H1 → Sim K S1 H1 h1 → stay h1 → RepL K S1 H1 vs ts) : ItRep K S H (Itl K a) ts stay := fun S1 H1 h1 f1 m1 st => by
  have q := hl S1 H1 h1 f1 m1 st
  have r1 := r S1 H1 h1 f1 m1 st
  refine ⟨fun i t e => ?_, ⟨vs, q, by rw [r1.length]; exact Nat.le_refl _⟩⟩
  obtain ⟨v, ev, rv⟩ := r1.get e
  refine ⟨⟨vs, v, q, ev⟩, fun x H2 y => ?_⟩
  obtain ⟨rfl, y⟩ := y
  have ex : x = v := Option.some.inj ((y vs q).symm.trans ev)
  subst ex
  exact ⟨S1, Fut.refl, m1, rv⟩
theorem ji_seq {tg e : Expr} {a : EM} (ha : JE X W e a) : JI X W tg e (iSeq a) := PI.wk (pi_list ha) fun σ H R ⟨S, h, s, Q, E, m, rs, lk, hm, pk⟩ =>
  ⟨S, h, s, _, E, m, rs, lk, hm, fun S1 H1 h1 v x f1 m1 r1 q1 => by
    split at q1
    · cases r1 with
      | lst s hh r => exact ⟨_, rfl, ⟨_, SqL.of hh⟩, pk S1 H1 h1 _ _ _ f1 m1 (seq_it (fun S2 H2 h2 f2 m2 _ => SqL.of ((f2.kp _ s).trans hh)) fun S2 H2 h2 f2 m2 _ => r.fu f2) q1⟩
    · obtain ⟨a, rfl, hh, hf⟩ := r1.scr_sq
      exact ⟨_, rfl, ⟨_, hh⟩, pk S1 H1 h1 _ _ _ f1 m1 (seq_it (fun S2 H2 h2 f2 m2 _ => hf S2 H2 f2) fun S2 H2 h2 f2 m2 _ => RepL.of_ints _) q1⟩
    · split at q1
      · rename_i p ts e
        cases r1
        obtain ⟨vs, e1, r⟩ := ref_lst m1 e
        refine ⟨_, rfl, ⟨_, SqL.of e1⟩, pk S1 H1 h1 _ ts _ f1 m1 ?_ q1⟩
        intro S2 H2 h2 f2 m2 st
        obtain ⟨ws, e2, r2⟩ := ref_lst m2 st
        refine ⟨fun i t e => ?_, ⟨ws, SqL.of e2, by rw [r2.length]; exact Nat.le_refl _⟩⟩
        obtain ⟨v, ev, rv⟩ := r2.get e
        refine ⟨⟨ws, v, SqL.of e2, ev⟩, fun x H3 y => ?_⟩
        obtain ⟨rfl, y⟩ := y
        have ex : x = v := Option.some.inj ((y ws (SqL.of e2)).symm.trans ev)
        subst ex
        exact ⟨S2, Fut.refl, m2, rv⟩
      · exact q1.elim
    · exact q1.elim⟩
def rng (lo : Int) (n : Nat) : List T := (List.range n).map fun (i : Nat) => T.int (lo + i)
theorem rng_it {lo : Int} {n : Nat} : ItRep K S H (Itr lo n) (rng lo n) (fun _ => True) := fun S1 H1 h1 f1 m1 st => by
  refine ⟨fun i t e => ?_, by show n ≤ (rng lo n).length; unfold rng; simp⟩
  have hi : i < n := by
    have := (List.getElem?_eq_some_iff.mp e).1
    unfold rng at this
    simpa using this
  have et : t = T.int (lo + i) := by
    unfold rng at e
    rw [List.getElem?_map, List.getElem?_range hi] at e
    exact (Option.some.inj e).symm
  subst et
  refine ⟨hi, fun x H2 y => ?_⟩
  obtain ⟨rfl, rfl⟩ := y
  exact ⟨S1, Fut.refl, m1, .int _⟩
def iRange1 (a : AM) : IM := fun s h Q E => a s h (fun ts h1 => match ts with
  | [.int j] => -1000000 ≤ j ∧ j ≤ 1000000 ∧ Q (rng 0 j.toNat) (fun _ => True) h1
  | _ => False) E
def iRange2 (a : AM) : IM := fun s h Q E => a s h (fun ts h1 => match ts with
  | [.int i, .int j] => (-(2 ^ 62) ≤ i ∧ i < 2 ^ 62 ∧ -(2 ^ 62) ≤ j ∧ j < 2 ^ 62) ∧ Q (rng i (j - i).toNat) (fun _ => True) h1
  | _ => False) E
theorem ji_range1 {tg e : Expr} {a : AM} {p pos : Pos} (hg : Gl X "range") (hm : X.mg "range" = none) (ha : JA X W [e] a) (hs : starEach [e] X.env = [(false, eval e X.env)] := by rfl) : JI X W tg (.Call (.Name "range" p) [e] [] pos) (iRange1 a) := PI.wk (pi_range1 hg hm ha hs) fun σ H R ⟨S, h, s, Q, E, m, rs, lk, hm, pk⟩ =>
  ⟨S, h, s, _, E, m, rs, lk, hm, fun S1 H1 h1 vs ts f1 m1 r1 q1 => by
    split at q1
    · cases r1 with
      | cons ra rn =>
        cases rn; cases ra
        rename_i j
        obtain ⟨a1, a2, q1⟩ := q1
        exact ⟨j, rfl, by omega, by omega, pk S1 H1 h1 _ _ _ f1 m1 rng_it q1⟩
    · exact q1.elim⟩
theorem ji_range2 {tg e e2 : Expr} {a : AM} {p pos : Pos} (hg : Gl X "range") (hm : X.mg "range" = none) (ha : JA X W [e, e2] a) (hs : starEach [e, e2] X.env = [(false, eval e X.env), (false, eval e2 X.env)] := by rfl) (hs2 : starEach [e2] X.env = [(false, eval e2 X.env)] := by rfl) :
    JI X W tg (.Call (.Name "range" p) [e, e2] [] pos) (iRange2 a) := PI.wk (pi_range2 hg hm ha hs hs2) fun σ H R ⟨S, h, s, Q, E, m, rs, lk, hm, pk⟩ =>
  ⟨S, h, s, _, E, m, rs, lk, hm, fun S1 H1 h1 vs ts f1 m1 r1 q1 => by
    split at q1
    · cases r1 with
      | cons ra rn => cases rn with
        | cons rb rn =>
          cases rn; cases ra; cases rb
          exact ⟨_, _, rfl, q1.1, pk S1 H1 h1 _ _ _ f1 m1 rng_it q1.2⟩
    · exact q1.elim⟩
def enumT (ts : List T) : List T := ts.mapIdx fun (i : Nat) t => T.tup [T.int i, t]
def iEnum (a : AM) : IM := fun s h Q E => a s h (fun xs h1 => match xs with
  | [.lst ts] => Q (enumT ts) (fun _ => True) h1
  | [.ref p] => match h1 p with
    | some (.lst ts) => Q (enumT ts) (fun h2 => h2 p = some (.lst ts)) h1
    | _ => False
  | _ => False) E
theorem enum_it {a : Addr} {ts : List T} {stay : Hq → Prop} (hl : ∀ S1 H1 h1, Fu S H S1 H1 → Sim K S1 H1 h1 → stay h1 → ∃ vs, SqL K H1 a vs ∧ RepL K S1 H1 vs ts) : ItRep K S H (Ite K a) (enumT ts) stay := fun S1 H1 h1 f1 m1 st => by
  obtain ⟨vs, q, r1⟩ := hl S1 H1 h1 f1 m1 st
  refine ⟨fun i t e => ?_, ⟨vs, q, by rw [r1.length]; unfold enumT; simp⟩⟩
  unfold enumT at e
  rw [List.getElem?_mapIdx] at e
  cases z : ts[i]? with
  | none => rw [z] at e; cases e
  | some y =>
    rw [z] at e
    cases e
    obtain ⟨v, ev, rv⟩ := r1.get z
    refine ⟨⟨vs, v, q, ev⟩, fun x H2 y => ?_⟩
    obtain ⟨p, w, rfl, np, rfl, yy⟩ := y
    have ex : w = v := Option.some.inj ((yy vs q).symm.trans ev)
    subst ex
    obtain ⟨m2, f2⟩ := m1.frozen (u := .tup [.int (i : Nat), w]) np
    exact ⟨_, f2, m2, .tup (.inr rfl) upd_same (.cons (.int _) (.cons (rv.fut f2) .nil))⟩
theorem ji_enum {elts : List Expr} {kk : Nat} {tpos : Pos} {e : Expr} {a : AM} {p pos : Pos} (hg : Gl X "enumerate") (hm : X.mg "enumerate" = none) (ha : JA X W [e] a) (hs : starEach [e] X.env = [(false, eval e X.env)] := by rfl) : JI X W (.Tuple elts kk tpos) (.Call (.Name "enumerate" p) [e] [] pos) (iEnum a) := PI.wk (pi_enum hg hm ha hs) fun σ H R ⟨S, h, s, Q, E, m, rs, lk, hm, pk⟩ =>
  ⟨S, h, s, _, E, m, rs, lk, hm, fun S1 H1 h1 vs ts f1 m1 r1 q1 => by
    split at q1
    · cases r1 with
      | cons ra rn =>
        cases rn
        cases ra with
        | lst s hh r => exact ⟨_, _, rfl, SqL.of hh, pk S1 H1 h1 _ _ _ f1 m1 (enum_it fun S2 H2 h2 f2 m2 _ => ⟨_, SqL.of ((f2.kp _ s).trans hh), r.fu f2⟩) q1⟩
    · cases r1 with
      | cons ra rn =>
        cases rn
        split at q1
        · rename_i ts e
          cases ra
          obtain ⟨vs, e1, r⟩ := ref_lst m1 e
          refine ⟨_, _, rfl, SqL.of e1, pk S1 H1 h1 _ _ _ f1 m1 (enum_it fun S2 H2 h2 f2 m2 st => ?_) q1⟩
          obtain ⟨ws, e2, r2⟩ := ref_lst m2 st
          exact ⟨ws, SqL.of e2, r2⟩
        · exact q1.elim
    · exact q1.elim⟩
end
end TL

namespace TL
open PySem L2
theorem ne_mem {α : Type} {i k : α} {own : List α} (hi : i ∈ own) (hk : k ∉ own) : i ≠ k := fun z => hk (z ▸ hi)
section
variable {X : Cx} {W : WX} {K : PySem.W.Frag} {S : Fz} {H : Hp} {h : Hq}
/-! ### comprehensions -/
def wipeT (s : Sl) : List Nat → Sl
  | [] => s
  | v :: vs => (wipeT s vs).set v none
theorem wipeT_some {s : Sl} {i : Nat} {t : T} : ∀ {vs : List Nat}, (wipeT s vs)[i]? = some (some t) → s[i]? = some (some t) ∧ i ∉ vs
  | [], h => ⟨h, by simp⟩
  | v :: vs, h => by
    unfold wipeT at h
    by_cases c : v = i
    · subst c
      rw [List.getElem?_set] at h
      simp only [if_true] at h
      split at h
      · cases h
      · cases h
    · rw [List.getElem?_set_ne c] at h
      obtain ⟨a, b⟩ := wipeT_some h
      exact ⟨a, by simp only [List.mem_cons, not_or]; exact ⟨fun z => c z.symm, b⟩⟩
theorem wipeT_len (s : Sl) : ∀ vs : List Nat, (wipeT s vs).length = s.length
  | [] => rfl
  | v :: vs => by unfold wipeT; rw [List.length_set, wipeT_len s vs]
theorem wipe_get (σ : L2.St) {k : Nat} : ∀ {vs : List Nat}, k ∉ vs → (wipe σ vs)[k]? = σ[k]?
  | [], _ => rfl
  | v :: vs, h => by
    unfold wipe
    simp only [List.mem_cons, not_or] at h
    rw [List.getElem?_set_ne (fun z => h.1 z.symm)]
    exact wipe_get σ h.2
theorem wipe_in (σ : L2.St) {k : Nat} : ∀ {vs : List Nat}, k ∈ vs → k < σ.length → (wipe σ vs)[k]? = some none
  | v :: vs, h, hl => by
    unfold wipe
    by_cases c : v = k
    · subst c
      rw [List.getElem?_set_self (by rw [wipe_length]; exact hl)]
    · rw [List.getElem?_set_ne c]
      rcases List.mem_cons.mp h with z | z
      · exact absurd z.symm c
      · exact wipe_in σ z hl
/-- own slots do not matter -/
theorem wipe_same {σ σ2 : L2.St} {vs : List Nat} (hl : σ2.length = σ.length) (e : ∀ k, k ∉ vs → σ2[k]? = σ[k]?) : wipe σ2 vs = wipe σ vs := by
  apply List.ext_getElem?
  intro k
  by_cases c : k ∈ vs
  · by_cases l : k < σ.length
    · rw [wipe_in σ c l, wipe_in σ2 c (by rw [hl]; exact l)]
    · rw [List.getElem?_eq_none_iff.mpr (by rw [wipe_length]; omega), List.getElem?_eq_none_iff.mpr (by rw [wipe_length]; omega)]
  · rw [wipe_get σ c, wipe_get σ2 c, e k c]
theorem RepS.wipe {σ : L2.St} {s : Sl} (r : RepS K S H σ s) (vs : List Nat) : RepS K S H (wipe σ vs) (wipeT s vs) := ⟨by rw [wipe_length, wipeT_len, r.len], fun i t e => by
  obtain ⟨a, b⟩ := wipeT_some e
  obtain ⟨v, h1, h2⟩ := r.at_ i t a
  exact ⟨v, by rw [wipe_get σ b]; exact h1, h2⟩⟩
/-- a target of names alone, its slots among own -/
def CTg (K : PySem.W.Frag) (g' : TG) (g : T → Sl → Option Sl) (own : List Nat) : Prop := ∀ S H h v t σ s s2 Q', Sim K S H h → RepS K S H σ s → Rep K S H v t → g t s = some s2 →
  (∀ σ2, RepS K S H σ2 s2 → wipe σ2 own = wipe σ own → Q' σ2 H) → g' v (wipe σ own) H Q'
def cN (i : Nat) (own : List Nat) : T → Sl → Option Sl := fun t s => some ((wipeT s own).set i (some t))
theorem ct_name {i : Nat} {own : List Nat} (hi : i ∈ own) : CTg K (L2.gName i) (cN i own) own := fun S H h v t σ s s2 Q' m rs r e q => by
  cases e
  refine q _ ((rs.wipe own).set r i) ?_
  refine wipe_same (by rw [List.length_set, wipe_length]) fun k hk => ?_
  rw [List.getElem?_set_ne (ne_mem hi hk), wipe_get σ hk]
def cN2 (i j : Nat) (own : List Nat) : T → Sl → Option Sl := fun t s => match t with
  | .tup [a, b] => some (((wipeT s own).set i (some a)).set j (some b))
  | _ => none
theorem ct_name2 {i j : Nat} {own : List Nat} (hi : i ∈ own) (hj : j ∈ own) : CTg K (L2.gTup K 2 (L2.gCons (L2.gName i) (L2.gCons (L2.gName j) L2.gNil))) (cN2 i j own) own := fun S H h v t σ s s2 Q' m rs r e q => by
  unfold cN2 at e
  split at e
  · cases e
    have go : ∀ {a : Addr} {vs : List V} {x y : T}, SqT K H a vs → RepL K S H vs [x, y] → (∀ σ2, RepS K S H σ2 (((wipeT s own).set i (some x)).set j (some y)) → wipe σ2 own = wipe σ own → Q' σ2 H) → L2.gTup K 2 (L2.gCons (L2.gName i) (L2.gCons (L2.gName j) L2.gNil)) (.ref a) (wipe σ own) H Q' := fun {a vs x y} hq rl q => by
      cases rl with
      | cons ra rl => cases rl with
        | cons rb rl =>
          cases rl
          refine ⟨a, _, rfl, hq, rfl, _, _, rfl, _, _, rfl, rfl, q _ (((rs.wipe own).set ra i).set rb j) ?_⟩
          refine wipe_same (by rw [List.length_set, List.length_set, wipe_length]) fun k hk => ?_
          rw [List.getElem?_set_ne (ne_mem hj hk), List.getElem?_set_ne (ne_mem hi hk), wipe_get σ hk]
    cases r with
    | tup s hh r => exact go (SqT.of hh) r q
    | tupK hh r => exact go (.inr hh) r q
  · cases e
theorem Sim.follow (m : Sim K S H h) {p : Addr} {u : HO} {o : O} (e : h p = none) (n : ¬ S.has p) (hp : H p = some u) (r : RepO K S H u o) : Sim K S H (put h p o) where
  fr := fun a s => by rw [put_ne (neS s n)]; exact m.fr a s
  al := m.al
  dj := m.dj
  ob := fun a o' q => by
    by_cases c : a = p
    · subst c; rw [put_same] at q; cases q; exact ⟨u, hp, r⟩
    · rw [put_ne c] at q; exact m.ob a o' q
abbrev E0 : EX := fun _ _ _ => False
theorem lk0 : LkX K W S H E0 := fun _ _ _ _ _ _ _ _ _ _ _ _ z => z.elim
def LcK (fl : Bool) (ts : List T) (stay : Hq → Prop) (g : T → Sl → Option Sl) (tt : TM) (el : EM) (s : Sl) (h1 : Hq) (Q : TK) : Prop := ∃ I : Nat → List T → Hq → Prop, I 0 [] h1 ∧ ∀ i acc h, i ≤ ts.length → I i acc h → stay h ∧ match ts[i]? with
  | none => mk fl acc h Q
  | some t => acc.length < lim ∧ match g t s with
    | some s2 => tt s2 h (fun b h3 => if b = true then el s2 h3 (fun y h4 => I (i + 1) (acc ++ [y]) h4) E0 else I (i + 1) acc h3) E0
    | none => False
def eLc (fl : Bool) (src : IM) (g : T → Sl → Option Sl) (tt : TM) (el : EM) : EM := fun s h Q E => src s h (fun ts stay h1 => LcK fl ts stay g tt el s h1 Q) E
theorem lift_lc {fl : Bool} {src : IM} {g : T → Sl → Option Sl} {g' : TG} {tt : TM} {el : EM} {own : List Nat} (ct : CTg K g' g own) : ∀ σ H Q, liftE K W (eLc fl src g tt el) σ H Q → tLc (liftI K W src) g' (liftT K W0 tt) (liftE K W0 el) own σ H Q := fun σ H Q' ⟨S, h, s, Q, E, m, rs, lk, hm, pk⟩ => by
  refine ⟨S, h, s, _, E, m, rs, lk, hm, fun S1 H1 h1 J ts stay f1 m1 it q => ?_⟩
  obtain ⟨I, i0, step⟩ := q
  intro D nD
  have nS1 : ¬ S1.has D := m1.nS nD
  let Wd : Nat → Hp → Prop := fun i H2 => ∃ S2 h2 vs acc, Fut S1 H1 S2 H2 ∧ Sim K S2 H2 h2 ∧ H2 D = some (.lst vs) ∧ RepL K S2 H2 vs acc ∧ ¬ S2.has D ∧ h2 D = none ∧ I i acc h2
  refine ⟨fun i n H2 => n = ts.length - i ∧ i ≤ ts.length ∧ Wd i H2, ⟨ts.length, by simp, Nat.zero_le _, S1, h1, [], [], fut_upd nS1, m1.side nD, upd_same, .nil, nS1, m1.free nD, i0⟩, ?_⟩
  rintro i n H2 ⟨en, hi, S2, h2, vs, acc, f2, m2, hD, rD, nS2, nh2, i2⟩
  obtain ⟨st, q2⟩ := step i acc h2 hi i2
  have m2' : Sim K (TL.prot S2 D) H2 h2 := m2.prot nh2 (by rw [hD]; exact fun z => nomatch z) fun z => nS2 (.inl z)
  obtain ⟨go, stop⟩ := it (TL.prot S2 D) H2 h2 ⟨f2.sub, fun a z => f2.kp a (.inl z)⟩ m2' st
  cases e : ts[i]? with
  | none =>
    rw [e] at q2
    have hl : i = ts.length := Nat.le_antisymm hi (List.getElem?_eq_none_iff.mp e)
    refine .inl ⟨by rw [hl]; exact stop, ?_⟩
    cases fl with
    | true =>
      rw [mk_true] at q2
      have f3 : Fut S2 H2 (TL.plus S2 D) H2 := fut_plus Fut.refl
      exact pk _ H2 h2 _ _ ((f1.trans f2).trans f3) (m2.plus nh2 (by rw [hD]; exact fun z => nomatch z) fun z => nS2 (.inr z)) (.lst (.inr rfl) hD (rD.fut f3)) q2
    | false =>
      rw [mk_false] at q2
      exact pk S2 H2 _ _ _ (f1.trans f2) (m2.follow (o := .lst acc) nh2 nS2 hD ⟨vs, rfl, rD⟩) (.ref D) (q2 D nh2)
  | some t =>
    rw [e] at q2
    obtain ⟨la, q2⟩ := q2
    have hl : i < ts.length := (List.getElem?_eq_some_iff.mp e).1
    obtain ⟨g1, g2⟩ := go i t e
    refine .inr ⟨g1, Wd (i + 1), fun H' w => ⟨ts.length - (i + 1), by omega, rfl, hl, w⟩, fun x H3 y => ?_⟩
    obtain ⟨S3, f3, m3, r3⟩ := g2 x H3 y
    have u2 : Fu S H (TL.prot S2 D) H2 := ⟨fun a z => f2.sub a (f1.sub a z), fun a z => (f1.trans f2).kp a (.inl z)⟩
    have rs3 : RepS K S3 H3 σ s := rs.fu (u2.trans f3.fu)
    split at q2
    · rename_i s2 eg
      refine ct S3 H3 h2 x t σ s s2 _ m3 rs3 r3 eg fun σ2 r2 ew => ⟨ew, ?_⟩
      refine ⟨S3, h2, s2, _, E0, m3, r2, lk0, q2, fun S4 H4 h4 b f4 m4 q4 => ?_⟩
      -- the world behind a turn
      have back : ∀ {S5 : Fz} {H5 : Hp} {h5 : Hq} {ws : List V} {acc' : List T}, Fut (TL.prot S2 D) H2 S5 H5 → Sim K S5 H5 h5 → RepL K S5 H5 ws acc' → I (i + 1) acc' h5 → Wd (i + 1) (upd H5 D (.lst ws)) := fun {S5 H5 h5 ws acc'} f5 m5 r5 q5 => by
        have pD : S5.p D := by rw [f5.pe]; exact .inr rfl
        have nD5 : ¬ S5.s D := fun z => m5.dj D z pD
        have n6 : ¬ (TL.unp S2 S5).has D := fun z => z.elim nD5 fun z => nS2 (.inr z)
        refine ⟨TL.unp S2 S5, h5, ws, acc', ⟨fun a z => f5.sub a (f2.sub a z), fun a z => ?_, f2.pe⟩, (m5.unp f5.pe).side' (m5.fr D (.inr pD)) n6, upd_same, ?_, n6, m5.fr D (.inr pD), q5⟩
        · rw [upd_ne (neS z nS1), f5.kp a (z.elim (fun w => .inl (f2.sub a w)) fun w => .inr (.inl (by rw [f2.pe]; exact w))), f2.kp a z]
        · exact r5.fu (S := S5) (S1 := TL.unp S2 S5) ⟨fun a z => z, fun a z => upd_ne (show a ≠ D from fun w => nD5 (by rw [← w]; exact z))⟩
      have old : ∀ {S5 : Fz} {H5 : Hp}, Fut (TL.prot S2 D) H2 S5 H5 → H5 D = some (.lst vs) ∧ RepL K S5 H5 vs acc := fun {S5 H5} f5 => ⟨(f5.kp D (.inr (.inr rfl))).trans hD, RepL.fu (S := S2) ⟨f5.sub, fun a z => f5.kp a (.inl z)⟩ rD⟩
      cases b with
      | true =>
        rw [if_pos rfl] at q4
        refine iteT ?_
        refine ⟨S4, h4, s2, _, E0, m4, r2.fut f4, lk0, q4, fun S5 H5 h5 v y f5 m5 r5 q5 => ?_⟩
        have f25 := (f3.trans f4).trans f5
        obtain ⟨hD5, rD5⟩ := old f25
        exact ⟨vs, hD5, lim_lt (by rw [rD.length]; exact Nat.le_of_lt la), back f25 m5 (rD5.append (.cons r5 .nil)) q5⟩
      | false =>
        rw [if_neg Bool.false_ne_true] at q4
        refine iteF ?_
        have f24 := f3.trans f4
        obtain ⟨hD4, rD4⟩ := old f24
        have w := back f24 m4 rD4 q4
        have eu : upd H4 D (.lst vs) = H4 := by
          funext a
          unfold upd
          split
          · rename_i z; rw [z, hD4]
          · rfl
        rw [eu] at w
        exact w
    · exact q2.elim
theorem j_lc (fl : Bool) {elt tg iter : Expr} {ifs : List Expr} {scope : Scope} {own : List (Str × Nat)} {pos : Pos} {src : IM} {g : T → Sl → Option Sl} {g' : TG} {tt : TM} {el : EM} (hc : X.calm = true) (hN : X.N.Nodup) (ct : CTg X.K g' g (own.map (·.2))) (hi : JI X W tg iter src) (ok : BlkOk X.N X.env.scope scope own)
    (hg : ∀ (s : Shared) (H : Hp) (C : Addr) (cl : List (Str × Addr)) (fp : List Addr), PG (X.blk s H scope (compEnvC scope cl C X.env) fp) tg g')
    (ht : ∀ (s : Shared) (H : Hp) (C : Addr) (cl : List (Str × Addr)) (fp : List Addr), PTs (X.blk s H scope (compEnvC scope cl C X.env) fp) ifs (liftT X.K W0 tt))
    (he : ∀ (s : Shared) (H : Hp) (C : Addr) (cl : List (Str × Addr)) (fp : List Addr), JE (X.blk s H scope (compEnvC scope cl C X.env) fp) W0 elt el) (hs : ∀ x, foldedSetIterable iter X.env x = pure x := by intro _; rfl) :
    JE X W (.ListComp elt [⟨tg, iter, ifs, 0⟩] scope pos) (eLc fl src g tt el) := PE.wk (pe_lc (te := liftE X.K W0 el) hc hN hi ok hg ht he hs) (lift_lc ct)
def tYes : TM := fun _ h Q _ => Q true h
theorem jts_nil : PTs X [] (liftT K W tYes) := ⟨fun pins s σ H Q I hw => pts_nil.run pins s σ H Q I (by
  obtain ⟨S, h, t, Q', E, m, rs, lk, hm, pk⟩ := hw
  exact pk S H h true Fut.refl m hm)⟩
theorem jts_one {c : Expr} {m : TM} (h : JT X W c m) : PTs X [c] (liftT X.K W m) := pts_one h
/-- y = [..] -/
theorem js_setLc (fl : Bool) {i : Nat} {y : Str} {py : Pos} {elt tg iter : Expr} {ifs : List Expr} {scope : Scope} {own : List (Str × Nat)} {pos spos : Pos} {src : IM} {g : T → Sl → Option Sl} {g' : TG} {tt : TM} {el : EM} (hc : X.calm = true) (hN : X.N.Nodup) (hy : X.N[i]? = some y) (hyl : X.env.scope.names.lookup y = some .local)
    (hsw : swapsWith (.ListComp elt [⟨tg, iter, ifs, 0⟩] scope pos) (some (.Name y py)) spos.line X.env = pure true) (ct : CTg X.K g' g (own.map (·.2))) (hi : JI X W tg iter src) (ok : BlkOk X.N X.env.scope scope own)
    (hg : ∀ (s : Shared) (H : Hp) (C : Addr) (cl : List (Str × Addr)) (fp : List Addr), PG (X.blk s H scope (compEnvC scope cl C X.env) fp) tg g')
    (ht : ∀ (s : Shared) (H : Hp) (C : Addr) (cl : List (Str × Addr)) (fp : List Addr), PTs (X.blk s H scope (compEnvC scope cl C X.env) fp) ifs (liftT X.K W0 tt))
    (he : ∀ (s : Shared) (H : Hp) (C : Addr) (cl : List (Str × Addr)) (fp : List Addr), JE (X.blk s H scope (compEnvC scope cl C X.env) fp) W0 elt el) (hs : ∀ x, foldedSetIterable iter X.env x = pure x := by intro _; rfl) :
    JS X W (.Assign [.Name y py] (.ListComp elt [⟨tg, iter, ifs, 0⟩] scope pos) spos) (sAsg (eLc fl src g tt el) (gN i)) := PS.wk (ps_setLc (te := liftE X.K W0 el) hc hN hy hyl hsw hi ok hg ht he hs) fun D' σ H ⟨S, h, s, D, m, rs, lk, hm⟩ =>
  lift_lc ct σ H _ ⟨S, h, s, _, D.ex, m, rs, lk.ex, hm, fun S1 H1 h1 v x f1 m1 r1 q1 => lk.nx S1 H1 h1 _ _ f1 m1 ((rs.fut f1).set r1 i) q1⟩

/-! ### a def -/
def startT (N : Nat) (ts : List T) : Sl := ts.map some ++ List.replicate (N - ts.length) none
/-- what is followed may be forgotten -/
def Sub (h2 h1 : Hq) : Prop := ∀ a o, h2 a = some o → h1 a = some o
def dn (Q : TK) : TK := fun u h1 => ∃ h2, Sub h2 h1 ∧ Q u h2
def dnX (E : Ex → Hq → Prop) : Ex → Hq → Prop := fun x h1 => ∃ h2, Sub h2 h1 ∧ E x h2
theorem dn_self {Q : TK} {u : T} {h : Hq} (q : Q u h) : dn Q u h := ⟨h, fun _ _ e => e, q⟩
theorem dnX_self {E : Ex → Hq → Prop} {u : Ex} {h : Hq} (q : E u h) : dnX E u h := ⟨h, fun _ _ e => e, q⟩
theorem sub_put {h : Hq} {p : Addr} {o : O} (e : h p = none) : Sub h (put h p o) := fun a u q => by
  rw [put_ne (fun z => by rw [z, e] at q; cases q)]; exact q
theorem Sub.put {h1 h2 : Hq} (s : Sub h2 h1) {p : Addr} {o : O} : Sub (TL.put h2 p o) (TL.put h1 p o) := fun a u q => by
  by_cases c : a = p
  · subst c; rw [put_same] at q ⊢; exact q
  · rw [put_ne c] at q ⊢; exact s a u q
def ends (Q : TK) (E : Ex → Hq → Prop) : En := { nx := fun _ h => dn Q .non h, rt := dn Q, ex := fun x _ h => dnX E x h }
theorem fn_ok {P : Program} {w : World} {mg : Str → Option Value} {base : Heap} {x qual : Str} {st : Stmt} {f : Addr} {fd : FuncData} {N ps : List Str} {k : Nat} {c : Con} {B : SM} (F : Fun K x qual st f fd) (sc : FnScope N ps (defScope st)) (hl : ps.length ≤ N.length)
    (J : ∀ (cdv : Value) (A : Around) (outer : List Env) (s : Shared) (H : Hp) (E : XK), Room k (A.deeper (PyProof.Rows.envOfC qual (defScope st) s.heap.objs.size f cdv)) →
      JSs (cxOf (L2.CX P w) P w K mg base N qual (defScope st) f cdv A outer s H E) (fun cls d _ H => E cls d H) (defBody st) B)
    (pl : ∀ ts h Q E, ts.length = ps.length → c ts h Q E → B (ends Q E) (startT N.length ts) h) : FnOk P w K mg base (L2.CX P w) (k + 1) f fd ps (liftSp K ps.length c) := by
  refine F.okX sc (fun vs H Q E ⟨S, h, ts, Q', E', m, r, l, _⟩ => r.length.trans l) fun cdv A outer s H vs Q E hr ⟨S, h, ts, Q', E', m, r, l, q, pk, px⟩ => ⟨_, J cdv A outer s H E hr, ?_⟩
  refine ⟨S, h, startT N.length ts, ends Q' E', m, ?_, ?_, pl ts h Q' E' l q⟩
  · have := RepS.start (N := N) r (by rw [r.length, l]; exact hl)
    exact this
  · exact { nx := fun S1 H1 h1 σ1 s1 f1 m1 r1 ⟨h2, z, q1⟩ => pk S1 H1 h2 _ _ f1 (m1.sub z) .non q1, rt := fun S1 H1 h1 v u f1 m1 r1 ⟨h2, z, q1⟩ => pk S1 H1 h2 _ _ f1 (m1.sub z) r1 q1, bk := fun _ _ _ _ _ _ _ _ z => z.elim, ct := fun _ _ _ _ _ _ _ _ z => z.elim,
            ex := fun S1 H1 h1 σ1 s1 x cls d f1 m1 r1 rx ⟨h2, z, q1⟩ => px S1 H1 h2 x cls d f1 (m1.sub z) rx q1 }
/-- a promise for more -/
theorem fn_wk {P : Program} {w : World} {mg : Str → Option Value} {base : Heap} {CX : CXT} {f : Addr} {fd : FuncData} {ps : List Str} {k : Nat} {sp sp' : Sp} (F : FnOk P w K mg base CX k f fd ps sp) (hs : ∀ vs H Q E, sp' vs H Q E → sp vs H Q E) : FnOk P w K mg base CX k f fd ps sp' :=
  ⟨fun vs H Q E q => F.len vs H Q E (hs vs H Q E q), fun A outer s H args us vs Q E hr e0 b v q => F.run A outer s H args us vs Q E hr e0 b v (hs vs H Q E q)⟩
end
end TL

namespace TL
open PySem L2
inductive Kd where | non | bl | int | str | tup | lst
  deriving DecidableEq
def Kd.nm : Kd → String
  | .non => "NoneType" | .bl => "bool" | .int => "int" | .str => "str" | .tup => "tuple" | .lst => "list"
def kdOf (h : Hq) : T → Option Kd
  | .non => some .non
  | .bl _ => some .bl
  | .int _ => some .int
  | .str _ => some .str
  | .tup _ => some .tup
  | .lst _ => some .lst
  | .ref a => match h a with
    | some (.lst _) => some .lst
    | _ => none
  | _ => none
def isK (k c : Kd) : Bool := decide (k = c) || (decide (k = .bl) && decide (c = .int))
def kdN (n : String) : Option Kd := if n = "int" then some .int else if n = "bool" then some .bl else if n = "str" then some .str else if n = "tuple" then some .tup else if n = "list" then some .lst else none
theorem kit_all : ∀ k c : Kd, c ≠ .non → kitB k.nm c.nm = some (isK k c) := by
  intro k c h
  cases k <;> cases c <;> first | exact absurd rfl h | decide +kernel
theorem kdN_nm {n : String} {c : Kd} (e : kdN n = some c) : n = c.nm ∧ c ≠ .non := by
  unfold kdN at e
  repeat' split at e
  all_goals (cases e; try exact ⟨by assumption, by decide⟩)
section
variable {X : Cx} {W : WX} {K : PySem.W.Frag} {S : Fz} {H : Hp} {h : Hq}
theorem kd_ty (m : Sim K S H h) {v : V} {x : T} {k : Kd} (r : Rep K S H v x) (e : kdOf h x = some k) : TyX K H v (.type k.nm) := by
  cases r with
  | non => cases e; exact .base .non
  | bl b => cases e; exact .base (.bl b)
  | int i => cases e; exact .base (.int i)
  | str x => cases e; exact .base (.str x)
  | tup s hh r => cases e; exact .base (.tup hh)
  | tupK hh r =>
    cases e
    obtain ⟨o, its, n, h1, h2, h3, h4, h5⟩ := hh
    exact .kTuple h1 h2
  | lst s hh r => cases e; exact .base (.lst hh)
  | ref a =>
    simp only [kdOf] at e
    split at e
    · rename_i ts z
      cases e
      obtain ⟨vs, e1, _⟩ := ref_lst m z
      exact .base (.lst e1)
    · cases e
  | ins _ _ _ => cases e
  | ty _ => cases e
  | scr _ _ => cases e
  | scrK _ => cases e
  | exc _ _ _ => cases e
  | exc0 => cases e
/-- isinstance(x, a built-in class) -/
def oIsi : RLT := fun xs h Q => match xs with
  | [x, .ty n] => match kdOf h x, kdN n with
    | some k, some c => Q (.bl (isK k c)) h
    | _, _ => False
  | _ => False
theorem c_isi : CP K (rIsi K) oIsi := fun S H h vs xs Q Q' m r q pk => by
  unfold oIsi at q
  split at q
  · cases r with
    | cons r1 rn => cases rn with
      | cons r2 rn =>
        cases rn
        split at q
        · rename_i k c e1 e2
          obtain ⟨rfl, hc⟩ := kdN_nm e2
          cases r2
          exact ⟨_, _, _, _, _, rfl, .ty _, kd_ty m r1 e1, kit_ty (kit_all k c hc), pk S H h _ _ Fut.refl m (.bl _) q⟩
        · exact q.elim
  · exact q.elim

theorem units65 {k : Nat} {A : Around} (r : Room k A) : A.units + 65 < cLine := by have := r.un; omega

/-! ### the pool: a list of two ints that nobody tells apart -/
def poolOk (a b : Int) : Prop := 0 ≤ a ∧ 0 ≤ b ∧ b < 2147483647
theorem Sim.unpool (m : Sim K S H h) {p : Addr} (e : h p = some .pool) : ∃ a b, poolOk a b ∧ Sim K S H (put h p (.lst [.int a, .int b])) := by
  obtain ⟨u, e1, a, b, e2, o1, o2, o3⟩ := m.ob p _ e
  refine ⟨a, b, ⟨o1, o2, o3⟩, ⟨fun c s => ?_, m.al, m.dj, fun c o q => ?_⟩⟩
  · rw [put_ne (neS s (m.nS' e))]; exact m.fr c s
  · by_cases z : c = p
    · subst z; rw [put_same] at q; cases q; exact ⟨u, e1, _, e2, .cons (.int a) (.cons (.int b) .nil)⟩
    · rw [put_ne z] at q; exact m.ob c o q
theorem Sim.repool {p : Addr} {a b : Int} (m : Sim K S H (put h p (.lst [.int a, .int b]))) (o : poolOk a b) : Sim K S H (put h p .pool) := by
  refine ⟨fun c s => ?_, m.al, m.dj, fun c o' q => ?_⟩
  · have z := m.fr c s
    by_cases y : c = p
    · subst y; rw [put_same] at z; cases z
    · rw [put_ne y] at z ⊢; exact z
  · by_cases z : c = p
    · subst z
      rw [put_same] at q; cases q
      obtain ⟨u, e1, vs, e2, r⟩ := m.ob c (.lst [.int a, .int b]) put_same
      have := RepL.ints (ns := [a, b]) r
      exact ⟨u, e1, a, b, by rw [e2, this]; rfl, o⟩
    · rw [put_ne z] at q
      exact m.ob c o' (by rw [put_ne z]; exact q)
/-- _law_hand(script, k) -/
def CxHand : Con := fun ts h Q _ => ∃ ns k, ts = [.scr ns, .int k] ∧ 0 ≤ k ∧ k ≤ 63 ∧ ns.length ≤ 63 ∧ ∀ a b, poolOk a b → ∀ p, h p = none → Q (.ref p) (put h p (.lst [.int a, .int b]))
def CHand : Con := fun ts h Q _ => ∃ ns k, ts = [.scr ns, .int k] ∧ 0 ≤ k ∧ k ≤ 63 ∧ ns.length ≤ 63 ∧ ∀ p, h p = none → Q (.ref p) (put h p .pool)
theorem hand_wk : ∀ vs H Q E, liftSp K 2 CHand vs H Q E → liftSp K 2 CxHand vs H Q E := fun vs H Q' E' ⟨S, h, ts, Q, E, m, r, l, ⟨ns, k, et, k0, k1, hn, q⟩, pk, px⟩ =>
  ⟨S, h, ts, fun u h1 => ∃ p a b, poolOk a b ∧ h p = none ∧ u = .ref p ∧ h1 = put h p (.lst [.int a, .int b]), E, m, r, l, ⟨ns, k, et, k0, k1, hn, fun a b o p hp => ⟨p, a, b, o, hp, rfl, rfl⟩⟩, fun S1 H1 h1 v u f1 m1 r1 ⟨p, a, b, o, hp, eu, eh⟩ => by
    subst eu eh
    exact pk S1 H1 _ v _ f1 (m1.repool o) r1 (q p hp), px⟩
/-- _law_draw(pool, many) -/
def CxDraw : Con := fun ts h Q _ => ∃ p n a b, ts = [.ref p, .int n] ∧ 0 < n ∧ n < 2 ^ 250 ∧ h p = some (.lst [.int a, .int b]) ∧ poolOk a b ∧ ∀ r a' b', 0 ≤ r → r < n → poolOk a' b' → Q (.int r) (put h p (.lst [.int a', .int b']))
def CDraw : Con := fun ts h Q _ => ∃ p n, ts = [.ref p, .int n] ∧ 0 < n ∧ n < 2 ^ 250 ∧ h p = some .pool ∧ ∀ r, 0 ≤ r → r < n → Q (.int r) h
theorem draw_wk : ∀ vs H Q E, liftSp K 2 CDraw vs H Q E → liftSp K 2 CxDraw vs H Q E := fun vs H Q' E' ⟨S, h, ts, Q, E, m, r, l, ⟨p, n, et, n0, n1, hp, q⟩, pk, px⟩ => by
  obtain ⟨a, b, o, m'⟩ := m.unpool hp
  refine ⟨S, _, ts, fun u h1 => ∃ r a' b', 0 ≤ r ∧ r < n ∧ poolOk a' b' ∧ u = .int r ∧ h1 = put h p (.lst [.int a', .int b']), fun _ _ => False, m', r, l, ⟨p, n, a, b, et, n0, n1, put_same, o, fun r a' b' r0 r1 o' => ⟨r, a', b', r0, r1, o', rfl, by rw [put_put]⟩⟩, fun S1 H1 h1 v u f1 m1 r1 ⟨r, a', b', r0, r1', o', eu, eh⟩ => ?_, fun _ _ _ _ _ _ _ _ _ z => z.elim⟩
  subst eu eh
  have m2 := m1.repool o'
  rw [put_id hp] at m2
  exact pk S1 H1 _ v _ f1 m2 r1 (q r r0 r1')
/-! ### the law's own end -/
theorem law_start {c : Con} {H : Hp} {a : Addr} {ns : List Int} (hS : SqL K H a (ns.map V.int)) (hc : c [.scr ns] (fun _ => none) (fun u _ => u = .bl true) fun _ _ => False) : liftSp K 1 c [.ref a] H (fun v _ => v = .bl true) fun _ _ _ => False := by
  rcases hS with hS | hS
  · have ha : H a ≠ none := by rcases hS with z | ⟨o, z⟩ <;> (rw [z]; exact fun y => nomatch y)
    exact ⟨⟨fun b => b = a, fun _ => False⟩, fun _ => none, [.scr ns], _, _, ⟨fun _ _ => rfl, fun b s => s.elim (fun z => by rw [z]; exact ha) False.elim, fun _ _ z => z, fun _ _ z => nomatch z⟩, .cons (.scr rfl hS) .nil, rfl, hc, fun S1 H1 h1 v u f1 m1 r1 e => by
      subst e; cases r1; rfl, fun _ _ _ _ _ _ _ _ _ z => z.elim⟩
  · exact ⟨⟨fun b => False, fun _ => False⟩, fun _ => none, [.scr ns], _, _, ⟨fun _ _ => rfl, fun b s => s.elim False.elim False.elim, fun _ z => z.elim, fun _ _ z => nomatch z⟩, .cons (.scrK hS) .nil, rfl, hc, fun S1 H1 h1 v u f1 m1 r1 e => by
      subst e; cases r1; rfl, fun _ _ _ _ _ _ _ _ _ z => z.elim⟩
theorem no_law {P : Program} {w : World} {H : Hp} {s : Shared} {e : Value} {s' : Shared} (c : L2.CX P w [] H s (fun _ _ _ => False) e s') : False := by
  obtain ⟨_, _, _, _, _, _, _, _, _, _, _, _, z⟩ := c
  exact z
end
end TL

/-! plain tools over trees: no program here -/
namespace TL
open PySem L2
theorem atI_nat' {α : Type} {xs : List α} {n : Nat} {x : α} (h : xs[n]? = some x) : atI xs (n : Int) = some x := by
  unfold atI ixN
  have hl : n < xs.length := (List.getElem?_eq_some_iff.mp h).1
  rw [if_pos (by omega), if_pos (by omega)]
  simpa using h
theorem atI_0 {α : Type} {x : α} {xs : List α} : atI (x :: xs) 0 = some x := atI_nat' (n := 0) rfl
theorem atI_1 {α : Type} {a x : α} {xs : List α} : atI (a :: x :: xs) 1 = some x := atI_nat' (n := 1) rfl
theorem atI_2 {α : Type} {a b x : α} {xs : List α} : atI (a :: b :: x :: xs) 2 = some x := atI_nat' (n := 2) rfl
theorem atI_3 {α : Type} {a b c x : α} {xs : List α} : atI (a :: b :: c :: x :: xs) 3 = some x := atI_nat' (n := 3) rfl
theorem atI_4 {α : Type} {a b c d x : α} {xs : List α} : atI (a :: b :: c :: d :: x :: xs) 4 = some x := atI_nat' (n := 4) rfl
theorem atI_5 {α : Type} {a b c d e x : α} {xs : List α} : atI (a :: b :: c :: d :: e :: x :: xs) 5 = some x := atI_nat' (n := 5) rfl
theorem atI_6 {α : Type} {a b c d e f x : α} {xs : List α} : atI (a :: b :: c :: d :: e :: f :: x :: xs) 6 = some x := atI_nat' (n := 6) rfl
theorem atI_7 {α : Type} {a b c d e f g x : α} {xs : List α} : atI (a :: b :: c :: d :: e :: f :: g :: x :: xs) 7 = some x := atI_nat' (n := 7) rfl
theorem atI_8 {α : Type} {a b c d e f g h x : α} {xs : List α} : atI (a :: b :: c :: d :: e :: f :: g :: h :: x :: xs) 8 = some x := atI_nat' (n := 8) rfl
theorem atI_m1 {α : Type} {x : α} {xs : List α} : atI (xs ++ [x]) (-1) = some x := by
  unfold atI ixN
  rw [if_neg (by omega), if_pos (by simp; omega)]
  have e : (-1 + (((xs ++ [x]).length : Nat) : Int)).toNat = xs.length := by simp; omega
  show (xs ++ [x])[(-1 + (((xs ++ [x]).length : Nat) : Int)).toNat]? = some x
  rw [e]
  simp
theorem ixN_0 {n : Nat} : ixN (n + 1) 0 = some 0 := by unfold ixN; rw [if_pos (by omega), if_pos (by omega)]; rfl
theorem ixN_1 {n : Nat} : ixN (n + 1 + 1) 1 = some 1 := by unfold ixN; rw [if_pos (by omega), if_pos (by omega)]; rfl
theorem ixN_nat {n i : Nat} (h : i < n) : ixN n (i : Int) = some i := by unfold ixN; rw [if_pos (by omega), if_pos (by omega)]; simp
theorem atI_map {α β : Type} {f : α → β} {xs : List α} {i : Nat} {x : α} (h : xs[i]? = some x) : atI (xs.map f) (i : Int) = some (f x) := atI_nat' (by rw [List.getElem?_map, h]; rfl)

theorem kdN_int : kdN "int" = some .int := by decide
theorem kdN_bool : kdN "bool" = some .bl := by decide
theorem kdN_str : kdN "str" = some .str := by decide
theorem kdN_list : kdN "list" = some .lst := by decide
theorem kdN_tuple : kdN "tuple" = some .tup := by decide
theorem view_int {h : Hq} {i : Int} : view h (.int i) = .int i := rfl
theorem view_non {h : Hq} : view h .non = .non := rfl
theorem dep_int {i : Int} : depth? (.int i) = true := rfl
theorem dep_non : depth? .non = true := rfl

/-! ### data, == -/
def dat : Nat → T → Bool
  | 0, _ => false
  | _ + 1, .non => true
  | _ + 1, .bl _ => true
  | _ + 1, .int _ => true
  | _ + 1, .str x => PyData.strOk x
  | n + 1, .tup ts => ts.all (dat n)
  | n + 1, .lst ts => ts.all (dat n)
  | _ + 1, _ => false
theorem dat_toDs {n : Nat} (ih : ∀ t, dat n t = true → ∃ d, toD t = some d ∧ d.depth ≤ n) : ∀ ts : List T, ts.all (dat n) = true → ∃ ds, toDs ts = some ds ∧ PyData.depthAll ds ≤ n
  | [], _ => ⟨[], rfl, Nat.zero_le _⟩
  | t :: ts, h => by
    rw [List.all_cons, Bool.and_eq_true] at h
    obtain ⟨d, e1, n1⟩ := ih t h.1
    obtain ⟨ds, e2, n2⟩ := dat_toDs ih ts h.2
    refine ⟨d :: ds, by unfold toDs; rw [e1, e2], ?_⟩
    unfold PyData.depthAll
    omega
theorem dat_toD : ∀ (n : Nat) (t : T), dat n t = true → ∃ d, toD t = some d ∧ d.depth ≤ n
  | 0, _, h => by cases h
  | n + 1, .non, _ => ⟨_, rfl, by unfold PyData.depth; omega⟩
  | n + 1, .bl _, _ => ⟨_, rfl, by unfold PyData.depth; omega⟩
  | n + 1, .int _, _ => ⟨_, rfl, by unfold PyData.depth; omega⟩
  | n + 1, .str x, h => ⟨.str x, by unfold toD; exact if_pos h, by unfold PyData.depth; omega⟩
  | n + 1, .tup ts, h => by
    obtain ⟨ds, e, k⟩ := dat_toDs (dat_toD n) ts h
    exact ⟨.tuple ds, by unfold toD; rw [e]; rfl, by unfold PyData.depth; omega⟩
  | n + 1, .lst ts, h => by
    obtain ⟨ds, e, k⟩ := dat_toDs (dat_toD n) ts h
    exact ⟨.list ds, by unfold toD; rw [e]; rfl, by unfold PyData.depth; omega⟩
  | n + 1, .ins _ _, h => by cases h
  | n + 1, .ref _, h => by cases h
  | n + 1, .ty _, h => by cases h
  | n + 1, .scr _, h => by cases h
theorem dep {n : Nat} {t : T} (h : dat n t = true) (hn : n ≤ 64 := by decide) : depth? t = true := by
  obtain ⟨d, e, k⟩ := dat_toD n t h
  unfold depth?
  rw [e]
  exact decide_eq_true (by omega)
/-- data without truth values: == is = -/
def cln : Nat → T → Bool
  | 0, _ => false
  | _ + 1, .non => true
  | _ + 1, .int _ => true
  | _ + 1, .str x => PyData.strOk x
  | n + 1, .tup ts => ts.all (cln n)
  | n + 1, .lst ts => ts.all (cln n)
  | _ + 1, _ => false
theorem cln_dat : ∀ (n : Nat) (t : T), cln n t = true → dat n t = true
  | 0, _, h => by cases h
  | n + 1, .non, _ => rfl
  | n + 1, .int _, _ => rfl
  | n + 1, .str x, h => h
  | n + 1, .tup ts, h => by
    unfold cln at h; unfold dat
    rw [List.all_eq_true] at *
    exact fun x hx => cln_dat n x (h x hx)
  | n + 1, .lst ts, h => by
    unfold cln at h; unfold dat
    rw [List.all_eq_true] at *
    exact fun x hx => cln_dat n x (h x hx)
  | n + 1, .bl _, h => by cases h
  | n + 1, .ins _ _, h => by cases h
  | n + 1, .ref _, h => by cases h
  | n + 1, .ty _, h => by cases h
  | n + 1, .scr _, h => by cases h
def eqTs : List T → List T → Bool
  | [], [] => true
  | x :: xs, y :: ys => eqT x y && eqTs xs ys
  | _, _ => false
theorem eqTs_ok : ∀ {xs ys : List T} {ds es : List PyData}, toDs xs = some ds → toDs ys = some es → PyData.eqvAll ds es = eqTs xs ys
  | [], [], _, _, e1, e2 => by cases e1; cases e2; rfl
  | [], y :: ys, _, _, e1, e2 => by
    cases e1
    unfold toDs at e2
    split at e2
    · cases e2; rfl
    · cases e2
  | x :: xs, [], _, _, e1, e2 => by
    cases e2
    unfold toDs at e1
    split at e1
    · cases e1; rfl
    · cases e1
  | x :: xs, y :: ys, _, _, e1, e2 => by
    unfold toDs at e1 e2
    split at e1
    · rename_i d ds a1 a2
      split at e2
      · rename_i e es b1 b2
        cases e1; cases e2
        show (PyData.eqv d e && PyData.eqvAll ds es) = (eqT x y && eqTs xs ys)
        rw [eqTs_ok a2 b2]
        unfold eqT
        rw [a1, b1]
      · cases e2
    · cases e1
theorem eqT_lst {n m : Nat} {xs ys : List T} (h1 : dat n (.lst xs) = true) (h2 : dat m (.lst ys) = true) : eqT (.lst xs) (.lst ys) = eqTs xs ys := by
  obtain ⟨d, e1, _⟩ := dat_toD _ _ h1
  obtain ⟨e, e2, _⟩ := dat_toD _ _ h2
  unfold eqT
  rw [e1, e2]
  unfold toD at e1 e2
  cases a : toDs xs with
  | none => rw [a] at e1; cases e1
  | some ds =>
    cases b : toDs ys with
    | none => rw [b] at e2; cases e2
    | some es =>
      rw [a] at e1; rw [b] at e2
      cases e1; cases e2
      exact eqTs_ok a b
theorem eqT_tup {n m : Nat} {xs ys : List T} (h1 : dat n (.tup xs) = true) (h2 : dat m (.tup ys) = true) : eqT (.tup xs) (.tup ys) = eqTs xs ys := by
  obtain ⟨d, e1, _⟩ := dat_toD _ _ h1
  obtain ⟨e, e2, _⟩ := dat_toD _ _ h2
  unfold eqT
  rw [e1, e2]
  unfold toD at e1 e2
  cases a : toDs xs with
  | none => rw [a] at e1; cases e1
  | some ds =>
    cases b : toDs ys with
    | none => rw [b] at e2; cases e2
    | some es =>
      rw [a] at e1; rw [b] at e2
      cases e1; cases e2
      exact eqTs_ok a b
theorem eqT_int (i j : Int) : eqT (.int i) (.int j) = decide (i = j) := by
  show (i == j) = _
  rw [Bool.beq_eq_decide_eq]
theorem eqT_bl (i j : Bool) : eqT (.bl i) (.bl j) = (i == j) := rfl
theorem eqT_nn : eqT .non .non = true := rfl
theorem eqT_in (i : Int) : eqT (.int i) .non = false := rfl
theorem eqT_ni (i : Int) : eqT .non (.int i) = false := rfl
theorem eqT_str {x y : Str} (h1 : PyData.strOk x = true) (h2 : PyData.strOk y = true) : eqT (.str x) (.str y) = decide (x = y) := by
  unfold eqT toD
  rw [if_pos h1, if_pos h2]
  show (x == y) = _
  rw [Bool.beq_eq_decide_eq]
mutual
theorem eqT_iff : ∀ (n : Nat) (x y : T), cln n x = true → cln n y = true → (eqT x y = true ↔ x = y)
  | 0, _, _, h, _ => by cases h
  | n + 1, x, y, h1, h2 => by
    have no : ∀ {a b : T}, eqT a b = false → a ≠ b → (eqT a b = true ↔ a = b) := fun e d => ⟨fun q => (by rw [e] at q; cases q), fun q => absurd q d⟩
    have kind : ∀ {k : PyData} {a b : T}, toD a = some k → (∀ e, toD b = some e → PyData.eqv k e = false) → eqT a b = false := fun {k a b} e f => by
      unfold eqT
      rw [e]
      split
      · rename_i d e' q1 q2; cases q1; exact f _ q2
      · rfl
    have lstD : ∀ {ts : List T} {e : PyData}, toD (.lst ts) = some e → ∃ es, e = .list es := fun {ts e} q => by
      unfold toD at q
      cases a : toDs ts with
      | none => rw [a] at q; cases q
      | some ds => rw [a] at q; cases q; exact ⟨ds, rfl⟩
    have tupD : ∀ {ts : List T} {e : PyData}, toD (.tup ts) = some e → ∃ es, e = .tuple es := fun {ts e} q => by
      unfold toD at q
      cases a : toDs ts with
      | none => rw [a] at q; cases q
      | some ds => rw [a] at q; cases q; exact ⟨ds, rfl⟩
    have strD : ∀ {z : Str} {e : PyData}, toD (.str z) = some e → e = .str z := fun {z e} q => by
      unfold toD at q
      split at q
      · cases q; rfl
      · cases q
    obtain ⟨dx, ex, _⟩ := dat_toD _ _ (cln_dat _ _ h1)
    cases x with
    | non => cases y with
      | non => exact ⟨fun _ => rfl, fun _ => rfl⟩
      | int j => exact no rfl (fun q => nomatch q)
      | str z => exact no (kind rfl fun e q => by rw [strD q]; rfl) (fun q => nomatch q)
      | tup ts => exact no (kind rfl fun e q => by obtain ⟨es, rfl⟩ := tupD q; rfl) (fun q => nomatch q)
      | lst ts => exact no (kind rfl fun e q => by obtain ⟨es, rfl⟩ := lstD q; rfl) (fun q => nomatch q)
      | bl _ => cases h2
      | ins _ _ => cases h2
      | ref _ => cases h2
      | ty _ => cases h2
      | scr _ => cases h2
      | exc _ _ _ _ => cases h2
    | int i => cases y with
      | non => exact no rfl (fun q => nomatch q)
      | int j => rw [eqT_int]; exact ⟨fun q => (by rw [of_decide_eq_true q]), fun q => (by cases q; exact decide_eq_true rfl)⟩
      | str z => exact no (kind rfl fun e q => by rw [strD q]; rfl) (fun q => nomatch q)
      | tup ts => exact no (kind rfl fun e q => by obtain ⟨es, rfl⟩ := tupD q; rfl) (fun q => nomatch q)
      | lst ts => exact no (kind rfl fun e q => by obtain ⟨es, rfl⟩ := lstD q; rfl) (fun q => nomatch q)
      | bl _ => cases h2
      | ins _ _ => cases h2
      | ref _ => cases h2
      | ty _ => cases h2
      | scr _ => cases h2
      | exc _ _ _ _ => cases h2
    | str w =>
      rw [strD ex] at ex
      cases y with
      | non => exact no (kind ex fun e q => by cases q; rfl) (fun q => nomatch q)
      | int j => exact no (kind ex fun e q => by cases q; rfl) (fun q => nomatch q)
      | str z => rw [eqT_str h1 h2]; exact ⟨fun q => (by rw [of_decide_eq_true q]), fun q => (by cases q; exact decide_eq_true rfl)⟩
      | tup ts => exact no (kind ex fun e q => by obtain ⟨es, rfl⟩ := tupD q; rfl) (fun q => nomatch q)
      | lst ts => exact no (kind ex fun e q => by obtain ⟨es, rfl⟩ := lstD q; rfl) (fun q => nomatch q)
      | bl _ => cases h2
      | ins _ _ => cases h2
      | ref _ => cases h2
      | ty _ => cases h2
      | scr _ => cases h2
      | exc _ _ _ _ => cases h2
    | tup us =>
      obtain ⟨ds, rfl⟩ := tupD ex
      cases y with
      | non => exact no (kind ex fun e q => by cases q; rfl) (fun q => nomatch q)
      | int j => exact no (kind ex fun e q => by cases q; rfl) (fun q => nomatch q)
      | str z => exact no (kind ex fun e q => by rw [strD q]; rfl) (fun q => nomatch q)
      | tup ts =>
        rw [eqT_tup (cln_dat _ _ h1) (cln_dat _ _ h2), eqTs_iff n us ts h1 h2]
        exact ⟨fun q => by rw [q], fun q => by cases q; rfl⟩
      | lst ts => exact no (kind ex fun e q => by obtain ⟨es, rfl⟩ := lstD q; rfl) (fun q => nomatch q)
      | bl _ => cases h2
      | ins _ _ => cases h2
      | ref _ => cases h2
      | ty _ => cases h2
      | scr _ => cases h2
      | exc _ _ _ _ => cases h2
    | lst us =>
      obtain ⟨ds, rfl⟩ := lstD ex
      cases y with
      | non => exact no (kind ex fun e q => by cases q; rfl) (fun q => nomatch q)
      | int j => exact no (kind ex fun e q => by cases q; rfl) (fun q => nomatch q)
      | str z => exact no (kind ex fun e q => by rw [strD q]; rfl) (fun q => nomatch q)
      | tup ts => exact no (kind ex fun e q => by obtain ⟨es, rfl⟩ := tupD q; rfl) (fun q => nomatch q)
      | lst ts =>
        rw [eqT_lst (cln_dat _ _ h1) (cln_dat _ _ h2), eqTs_iff n us ts h1 h2]
        exact ⟨fun q => by rw [q], fun q => by cases q; rfl⟩
      | bl _ => cases h2
      | ins _ _ => cases h2
      | ref _ => cases h2
      | ty _ => cases h2
      | scr _ => cases h2
      | exc _ _ _ _ => cases h2
    | bl _ => cases h1
    | ins _ _ => cases h1
    | ref _ => cases h1
    | ty _ => cases h1
    | scr _ => cases h1
    | exc _ _ _ _ => cases h1
theorem eqTs_iff : ∀ (n : Nat) (xs ys : List T), xs.all (cln n) = true → ys.all (cln n) = true → (eqTs xs ys = true ↔ xs = ys)
  | n, [], [], _, _ => ⟨fun _ => rfl, fun _ => rfl⟩
  | n, [], y :: ys, _, _ => ⟨fun q => (Bool.noConfusion q), fun q => nomatch q⟩
  | n, x :: xs, [], _, _ => ⟨fun q => (Bool.noConfusion q), fun q => nomatch q⟩
  | n, x :: xs, y :: ys, h1, h2 => by
    rw [List.all_cons, Bool.and_eq_true] at h1 h2
    show (eqT x y && eqTs xs ys) = true ↔ _
    rw [Bool.and_eq_true, eqT_iff n x y h1.1 h2.1, eqTs_iff n xs ys h1.2 h2.2]
    exact ⟨fun q => by rw [q.1, q.2], fun q => by cases q; exact ⟨rfl, rfl⟩⟩
end
theorem eqT_dec {n : Nat} {x y : T} {p : Prop} [Decidable p] (h1 : cln n x = true) (h2 : cln n y = true) (e : x = y ↔ p) : eqT x y = decide p := by
  have := eqT_iff n x y h1 h2
  by_cases c : p
  · rw [decide_eq_true c]; exact this.mpr (e.mpr c)
  · rw [decide_eq_false c]
    cases q : eqT x y with
    | false => rfl
    | true => exact absurd (e.mp (this.mp q)) c
theorem inT_iff {n : Nat} {x : T} {ys : List T} (h1 : cln n x = true) (h2 : ys.all (cln n) = true) : inT x ys = true ↔ x ∈ ys := by
  unfold inT
  rw [List.any_eq_true]
  rw [List.all_eq_true] at h2
  constructor
  · rintro ⟨y, hy, e⟩
    rw [(eqT_iff n y x (h2 y hy) h1).mp e] at hy
    exact hy
  · intro hx
    exact ⟨x, hx, (eqT_iff n x x h1 h1).mpr rfl⟩
theorem map_int_inj {xs ys : List Int} : xs.map T.int = ys.map T.int ↔ xs = ys := by
  constructor
  · intro e
    have : (xs.map T.int).map (fun t => match t with | .int i => i | _ => 0) = (ys.map T.int).map (fun t => match t with | .int i => i | _ => 0) := by rw [e]
    simpa [List.map_map, Function.comp_def] using this
  · intro e; rw [e]
theorem ints_cln (n : Nat) (xs : List Int) : (xs.map T.int).all (cln (n + 1)) = true := by
  rw [List.all_eq_true]
  intro t ht
  obtain ⟨i, _, rfl⟩ := List.mem_map.mp ht
  rfl
theorem ints_dat (n : Nat) (xs : List Int) : (xs.map T.int).all (dat (n + 1)) = true := by
  rw [List.all_eq_true]
  intro t ht
  obtain ⟨i, _, rfl⟩ := List.mem_map.mp ht
  rfl

/-! ### loops and comprehensions by what they come to -/
theorem lc_pure {fl : Bool} {ts : List T} {stay : Hq → Prop} {g : T → Sl → Option Sl} {s : Sl} {tt : TM} {el : EM} {h : Hq} {Q : TK} (f : T → Option T) (hst : stay h) (hl : ts.length ≤ lim)
    (hs : ∀ t ∈ ts, ∀ R : Option T → Hq → Prop, R (f t) h → match g t s with
      | some s2 => tt s2 h (fun b h3 => if b = true then el s2 h3 (fun y h4 => R (some y) h4) E0 else R none h3) E0
      | none => False) (hQ : mk fl (ts.filterMap f) h Q) :
    ∃ I : Nat → List T → Hq → Prop, I 0 [] h ∧ ∀ i acc h, i ≤ ts.length → I i acc h → stay h ∧ match ts[i]? with
      | none => mk fl acc h Q
      | some t => acc.length < lim ∧ match g t s with
        | some s2 => tt s2 h (fun b h3 => if b = true then el s2 h3 (fun y h4 => I (i + 1) (acc ++ [y]) h4) E0 else I (i + 1) acc h3) E0
        | none => False := by
  refine ⟨fun i acc h' => acc = (ts.take i).filterMap f ∧ h' = h, ⟨by simp, rfl⟩, ?_⟩
  rintro i acc h' hi ⟨rfl, rfl⟩
  refine ⟨hst, ?_⟩
  cases e : ts[i]? with
  | none =>
    have : ts.take i = ts := List.take_of_length_le (List.getElem?_eq_none_iff.mp e)
    show mk fl ((ts.take i).filterMap f) h' Q
    rw [this]
    exact hQ
  | some t =>
    have hm : t ∈ ts := List.mem_of_getElem? e
    have hi' : i < ts.length := (List.getElem?_eq_some_iff.mp e).1
    refine ⟨?_, ?_⟩
    · have h1 := List.length_filterMap_le f (ts.take i)
      have h2 : (ts.take i).length ≤ i := by rw [List.length_take]; omega
      omega
    · have q := hs t hm (fun o h4 => h4 = h' ∧ o = f t) ⟨rfl, rfl⟩
      have tk : (ts.take (i + 1)).filterMap f = (ts.take i).filterMap f ++ (f t).toList := by
        rw [List.take_add_one, e, List.filterMap_append]
        cases z : f t <;> simp [z]
      have q2 := hs t hm (fun o h4 => (ts.take i).filterMap f ++ o.toList = (ts.take (i + 1)).filterMap f ∧ h4 = h') ⟨tk.symm, rfl⟩
      dsimp only at q2 ⊢
      simpa using q2
theorem lcK_pure {fl : Bool} {ts : List T} {stay : Hq → Prop} {g : T → Sl → Option Sl} {tt : TM} {el : EM} {s : Sl} {h : Hq} {Q : TK} (f : T → Option T) (hst : stay h) (hl : ts.length ≤ 1000000)
    (hs : ∀ t ∈ ts, ∀ R : Option T → Hq → Prop, R (f t) h → match g t s with
      | some s2 => tt s2 h (fun b h3 => if b = true then el s2 h3 (fun y h4 => R (some y) h4) E0 else R none h3) E0
      | none => False) (hQ : mk fl (ts.filterMap f) h Q) : LcK fl ts stay g tt el s h Q := lc_pure f hst hl hs hQ
/-- every item goes in as it is told -/
theorem lcK_map {fl : Bool} {ts : List T} {stay : Hq → Prop} {g : T → Sl → Option Sl} {el : EM} {s : Sl} {h : Hq} {Q : TK} (f : T → T) (hst : stay h) (hl : ts.length ≤ 1000000)
    (hs : ∀ t ∈ ts, ∀ R : TK, R (f t) h → match g t s with
      | some s2 => el s2 h R E0
      | none => False) (hQ : mk fl (ts.map f) h Q) : LcK fl ts stay g tYes el s h Q := by
  refine lc_pure (fun t => some (f t)) hst hl (fun t ht R r => ?_) (by rw [List.filterMap_eq_map']; exact hQ)
  have q := hs t ht (fun y h4 => R (some y) h4) r
  split at q
  · exact iteT (B := R none h) q
  · exact q.elim
theorem put_comm {h : Hq} {a b : Addr} {x y : O} (n : a ≠ b) : put (put h a x) b y = put (put h b y) a x := by
  funext c
  unfold put
  by_cases c1 : c = a
  · subst c1; rw [if_neg n, if_pos rfl, if_pos rfl]
  · rw [if_neg c1]; split <;> rfl
theorem put_none {h : Hq} {a b : Addr} {x : O} (e : put h a x b = none) : b ≠ a ∧ h b = none := by
  by_cases c : b = a
  · subst c; rw [put_same] at e; cases e
  · exact ⟨c, by rw [put_ne c] at e; exact e⟩
theorem enum_at {ts : List T} {i : Nat} {t : T} (e : (enumT ts)[i]? = some t) : ∃ x, ts[i]? = some x ∧ t = .tup [.int i, x] := by
  unfold enumT at e
  rw [List.getElem?_mapIdx] at e
  cases z : ts[i]? with
  | none => rw [z] at e; cases e
  | some x => rw [z] at e; cases e; exact ⟨x, rfl, rfl⟩
theorem enum_len {ts : List T} : (enumT ts).length = ts.length := by unfold enumT; simp
theorem rng_at {lo : Int} {n i : Nat} {t : T} (e : (rng lo n)[i]? = some t) : i < n ∧ t = .int (lo + i) := by
  unfold rng at e
  rw [List.getElem?_map] at e
  by_cases c : i < n
  · rw [List.getElem?_range c] at e; cases e; exact ⟨c, rfl⟩
  · rw [List.getElem?_eq_none_iff.mpr (by simp; omega)] at e; cases e
theorem rng_none {lo : Int} {n i : Nat} (e : (rng lo n)[i]? = none) : n ≤ i := by
  unfold rng at e
  have := List.getElem?_eq_none_iff.mp e
  simpa using this
theorem rng_len {lo : Int} {n : Nat} : (rng lo n).length = n := by unfold rng; simp
theorem filterMap_ite {α β : Type} (p : α → Bool) (f : α → β) : ∀ l : List α, (l.filterMap fun k => if p k = true then some (f k) else none) = (l.filter p).map f
  | [] => rfl
  | x :: l => by
    have ih := filterMap_ite p f l
    cases c : p x with
    | true => rw [List.filterMap_cons_some (b := f x) (by simp [c]), List.filter_cons_of_pos (by simp [c]), ih]; rfl
    | false => rw [List.filterMap_cons_none (by simp [c]), List.filter_cons_of_neg (by simp [c]), ih]
theorem forK_go {ts : List T} {stay : Hq → Prop} {g : GM} {b : SM} {D : En} {s : Sl} {h : Hq} (I : Nat → SK) (h0 : I 0 s h)
    (hend : ∀ s h, I ts.length s h → stay h ∧ D.nx s h) (hstep : ∀ i t s h, ts[i]? = some t → I i s h → stay h ∧ g t s h (fun s2 h2 => b { D with nx := I (i + 1), ct := I (i + 1), bk := D.nx } s2 h2) D.ex) : ForK ts stay g b D s h := by
  refine ⟨I, h0, fun i s h hi q => ?_⟩
  cases e : ts[i]? with
  | none =>
    have : i = ts.length := Nat.le_antisymm hi (List.getElem?_eq_none_iff.mp e)
    subst this
    exact hend s h q
  | some t => exact hstep i t s h e q
/-- over items that are told by others -/
theorem lcK_fA {α : Type} {fl : Bool} {enc : α → T} {xs : List α} {stay : Hq → Prop} {g : T → Sl → Option Sl} {tt : TM} {el : EM} {s : Sl} {h : Hq} {Q : TK} (f : α → Option T) (hst : stay h) (hl : xs.length ≤ 1000000)
    (hs : ∀ x ∈ xs, ∀ R : Option T → Hq → Prop, R (f x) h → match g (enc x) s with
      | some s2 => tt s2 h (fun b h3 => if b = true then el s2 h3 (fun y h4 => R (some y) h4) E0 else R none h3) E0
      | none => False) (hQ : mk fl (xs.filterMap f) h Q) : LcK fl (xs.map enc) stay g tt el s h Q := by
  refine ⟨fun i acc h' => acc = (xs.take i).filterMap f ∧ h' = h, ⟨by simp, rfl⟩, ?_⟩
  rintro i acc h' hi ⟨rfl, rfl⟩
  refine ⟨hst, ?_⟩
  cases e : xs[i]? with
  | none =>
    have : xs.take i = xs := List.take_of_length_le (List.getElem?_eq_none_iff.mp e)
    rw [List.getElem?_map, e, this]
    exact hQ
  | some x =>
    have hm : x ∈ xs := List.mem_of_getElem? e
    have hi' : i < xs.length := (List.getElem?_eq_some_iff.mp e).1
    rw [List.getElem?_map, e]
    refine ⟨?_, ?_⟩
    · have h1 := List.length_filterMap_le f (xs.take i)
      have h2 : (xs.take i).length ≤ i := by rw [List.length_take]; omega
      show _ < 1000000
      omega
    · have tk : (xs.take (i + 1)).filterMap f = (xs.take i).filterMap f ++ (f x).toList := by
        rw [List.take_add_one, e, List.filterMap_append]
        cases z : f x <;> simp [z]
      have q2 := hs x hm (fun o h4 => (xs.take i).filterMap f ++ o.toList = (xs.take (i + 1)).filterMap f ∧ h4 = h') ⟨tk.symm, rfl⟩
      simp only [Option.toList_some, Option.toList_none, List.append_nil] at q2
      exact q2
theorem lcK_mA {α : Type} {fl : Bool} {enc : α → T} {xs : List α} {stay : Hq → Prop} {g : T → Sl → Option Sl} {el : EM} {s : Sl} {h : Hq} {Q : TK} (f : α → T) (hst : stay h) (hl : xs.length ≤ 1000000)
    (hs : ∀ x ∈ xs, ∀ R : TK, R (f x) h → match g (enc x) s with
      | some s2 => el s2 h R E0
      | none => False) (hQ : mk fl (xs.map f) h Q) : LcK fl (xs.map enc) stay g tYes el s h Q := by
  refine lcK_fA (fun t => some (f t)) hst hl (fun t ht R r => ?_) (by rw [List.filterMap_eq_map']; exact hQ)
  have q := hs t ht (fun y h4 => R (some y) h4) r
  split at q
  · exact iteT (B := R none h) q
  · exact q.elim
end TL

/-! TLX: own errors: raised, caught, asked. -/
namespace TL
open PySem L2

section
variable {K : PySem.W.Frag} {S : Fz} {H : Hp}
theorem RepF.look : ∀ {fs : List (Str × V)} {gs : List (Str × T)} {f : Str} {t : T}, RepF K S H fs gs → gs.lookup f = some t → ∃ v, fs.lookup f = some v ∧ Rep K S H v t
  | _, _, _, _, .nil, e => by cases e
  | _, _, f, t, .cons (f := g) (v := v) (vs := vs) (t := u) (ts := ts) r q, e => by
    rw [List.lookup_cons] at e ⊢
    cases z : f == g with
    | true => rw [z] at e; cases e; exact ⟨v, rfl, r⟩
    | false => rw [z] at e; exact RepF.look q e
theorem RepS.unset {σ : L2.St} {s : Sl} (r : RepS K S H σ s) (i : Nat) : RepS K S H (σ.set i none) (s.set i none) := ⟨by simp [r.len], fun j u e => by
  by_cases c : i = j
  · subst c
    have hl : i < s.length := by
      have := (List.getElem?_eq_some_iff.mp e).1
      simpa using this
    rw [List.getElem?_set_self hl] at e
    cases e
  · rw [List.getElem?_set_ne c] at e
    obtain ⟨w, h1, h2⟩ := r.at_ j u e
    exact ⟨w, by rw [List.getElem?_set_ne c]; exact h1, h2⟩⟩
theorem RepX.rep {cls : Value} {d : Option Addr} {x : Ex} (r : RepX K S H cls d x) (a : Addr) : Rep K S H (.ref a) (.exc a x.cls d x.fs) := by
  obtain ⟨_, ⟨e1, e2⟩ | ⟨dd, fs, e1, e2, e3, e4⟩⟩ := r
  · rw [e1, e2]; exact .exc0
  · rw [e1]; exact .exc e2 e3 e4
end

/-! ### __init__(self, y): self.f = y -/
def spInit (C : Addr) (f : Str) : Sp := fun vs H Q _ => ∃ a y, vs = [.ref a, y] ∧ H a = some (exo a C none) ∧ ∀ dx, H dx = none → dx ≠ a → Q .non (upd (upd H dx (exd dx [(f, y)])) a (exo a C (some dx)))
theorem init_ok {P : Program} {w : World} {K : PySem.W.Frag} {mg : Str → Option Value} {base : Heap} {qual : Str} {st : Stmt} {fI C : Addr} {fd : FuncData} {y f : Str} {p1 p2 p3 p4 : Pos} (F : Fun K "__init__" qual st fI fd) (sc : FnScope ["self", y] ["self", y] (defScope st)) (T : OexC K C) (hno : PySem.W.findIn K (.ref C) f = some none)
    (hb : defBody st = [.Assign [.Attribute (.Name "self" p1) f p2] (.Name y p3) p4])
    (h0 : Vis (defScope st) "self") (h1 : Vis (defScope st) y) (hd : (y == ("__debug__" : Str)) = false) (hcd : (y == ("__classdict__" : Str)) = false)
    (hs : ∀ env, env.scope = defScope st → swapsWith (.Name y p3) (some (.Attribute (.Name "self" p1) f p2)) p4.line env = pure false) : FnOk P w K mg base (L2.CX P w) 1 fI fd ["self", y] (spInit C f) := by
  refine F.okX (k := 0) sc (fun vs H Q E ⟨a, v, e, _⟩ => by rw [e]; rfl) fun cdv A outer s H vs Q E hr ⟨a, v, e, ha, q⟩ => ⟨_, by rw [hb]; exact pss_one (ps_ost (pe_var (i := 0) rfl h0) (pe_var (i := 1) rfl h1 hd hcd) (hs _ rfl)), ?_⟩
  subst e
  refine ⟨v, rfl, .ref a, rfl, a, C, rfl, T, hno, .inl ⟨ha, fun dx n ne => q dx n ne⟩⟩

/-! ### raise C(e) -/
def sRaise (C : Addr) (f : Str) (a : AM) : SM := fun D s h => a s h (fun ts h1 => match ts with
  | [t] => D.ex ⟨.ref C, [(f, t)]⟩ s h1
  | _ => False) D.ex
section
variable {X : Cx} {W : WX}
theorem noPass {P : Program} {w : World} : Passes (L2.CX P w) X (fun _ _ _ => False) := fun pins σ H s e s' I c => by
  obtain ⟨_, _, _, _, _, _, _, _, _, _, _, _, z⟩ := c
  exact z.elim
theorem js_raise {x f y : Str} {C fI : Addr} {fd : FuncData} {e : Expr} {es : List Expr} {a : AM} {p pos pos' : Pos} (T : OexC X.K C) (iC : PySem.W.findIn X.K (.ref C) "__init__" = some (some (.ref fI))) (tI : PySem.W.typeIn X.K (.ref fI) = some (.type "function"))
    (F1 : FnOk X.prog X.w X.K X.mg X.base (L2.CX X.prog X.w) 1 fI fd ["self", y] (spInit C f)) (hb : Binds X.K fd ["self", y] []) (hr : Room 2 X.A) (hc : X.calm = true) (tk : Takes X W) (hg : Gl X x) (hm : X.mg x = some (.ref C)) (ha : JA X W (e :: es) a)
    (hdb : (x == ("__debug__" : Str)) = false := by decide) (he : starEach (e :: es) X.env = (false, eval e X.env) :: starEach es X.env := by rfl) (hpl : (backTo pos (starEach es X.env)).any (·.1) = false := by rfl) :
    JS X W (.Raise (some (.Call (.Name x p) (e :: es) [] pos)) none pos') (sRaise C f a) := PS.wk (ps_raise hc tk (pmk_oex T iC tI F1 hr hb .nil noPass hg hm ha hdb he hpl)) fun D' σ H ⟨S, h, s, D, m, rs, lk, hm⟩ => by
  refine ⟨S, h, s, _, D.ex, m, rs, lk.ex, hm, fun S1 H1 h1 vs ts f1 m1 r1 q1 => ?_⟩
  split at q1
  · cases r1 with
    | @cons v _ t _ r rn =>
      cases rn
      refine ⟨by simp, fun a na => ⟨a, v, rfl, upd_same, fun dx ndx ne => ⟨rfl, dx, [(f, v)], upd_same, ?_, ?_, ?_⟩⟩⟩
      · rw [upd_ne ne, upd_same]
      · rw [upd_ne ne] at ndx; exact ndx
      · rw [upd_ne ne] at ndx
        have e1 : upd (L2.del (upd (upd (upd H1 a (exo a C none)) dx (exd dx [(f, v)])) a (exo a C (some dx))) a) dx (.xd [(f, v)]) = upd H1 dx (.xd [(f, v)]) := by
          funext b
          by_cases c : b = dx
          · rw [c, upd_same, upd_same]
          · rw [upd_ne c, upd_ne c]
            by_cases c2 : b = a
            · rw [c2, L2.del_same, na]
            · rw [L2.del_ne c2, upd_ne c2, upd_ne c, upd_ne c2]
        rw [e1]
        obtain ⟨m2, f2⟩ := m1.frozen (u := .xd [(f, v)]) ndx
        exact lk.ex _ _ h1 σ s ⟨.ref C, [(f, _)]⟩ _ _ (f1.trans f2) m2 (rs.fut (f1.trans f2)) ⟨rfl, .inr ⟨dx, [(f, v)], rfl, .inr rfl, upd_same, .cons (r.fut f2) .nil⟩⟩ q1
  · exact q1.elim

/-! ### try: .. except c as e: .. -/
def exTry (K : PySem.W.Frag) (c : Value) (i : Nat) (ms : Addr → Value → Option Addr → SM) (D : En) : EX := fun x s1 h1 => ∃ ok, PySem.W.exmOne K x.cls c = some ok ∧ (ok = true → ∀ a d, h1 a = none → ms a x.cls d { nx := fun s' h' => D.nx (s'.set i none) h', rt := D.rt, bk := fun s' h' => D.bk (s'.set i none) h', ct := fun s' h' => D.ct (s'.set i none) h' } (s1.set i (some (.exc a x.cls d x.fs))) h1) ∧ (ok = false → D.ex x s1 h1)
def sTry (K : PySem.W.Frag) (c : Value) (i : Nat) (b : SM) (ms : Addr → Value → Option Addr → SM) : SM := fun D s h => b { nx := D.nx, rt := D.rt, bk := D.bk, ct := D.ct, ex := exTry K c i ms D } s h
theorem js_try {x n : Str} {c : Value} {i : Nat} {body suite : List Stmt} {b₀ : Stmt} {np pos pos' : Pos} {mb : SM} {ms : Addr → Value → Option Addr → SM} (hs : X.stack = X.env :: X.outer) (hf : X.env.frame = some X.env.locals) (hN : X.N.Nodup) (hi : X.N[i]? = some n) (hln : X.env.kindOf n = some .local) (hc : Names X x c) (tk : Takes X W)
    (hb : ∀ (W : WX) (pn : List (Addr × Obj)) (xe : Value → Shared → Prop), Takes (X.tr pn xe) W → PassesOwn (model X.prog X.w) X.A X.env xe → JSs (X.tr pn xe) W body mb)
    (hsu : ∀ (a : Addr) (oe : Obj) (cls : Value) (d : Option Addr) (pn : List (Addr × Obj)), Zc cls d oe → (∃ vs, oe.data = .fields vs) → JSs (X.suite a ((a, oe) :: pn)) W0 (b₀ :: suite) (ms a cls d)) :
    JS X W (.Try body [.ExceptHandler (some (.Name x np)) (some n) (b₀ :: suite) pos'] [] [] pos) (sTry X.K c i mb ms) := PS.wk (ps_try_as (tb := fun W => liftS X.K W mb) (ts := fun a cls d => liftS X.K W0 (ms a cls d)) hs hf hN hi hln hc tk hb hsu) fun D' σ H ⟨S, h, s, D, m, rs, lk, hm⟩ => by
  refine ⟨S, h, s, { nx := D.nx, rt := D.rt, bk := D.bk, ct := D.ct, ex := exTry X.K c i ms D }, m, rs, ⟨lk.nx, lk.rt, lk.bk, lk.ct, fun S1 H1 h1 σ1 s1 x cls d f1 m1 r1 rx ⟨ok, e, yes, no⟩ => ?_⟩, hm⟩
  obtain ⟨ec, _⟩ := id rx
  refine ⟨ok, by rw [ec]; exact e, fun eo a na => ?_, fun eo => lk.ex S1 H1 h1 σ1 s1 x cls d f1 m1 r1 rx (no eo)⟩
  have q := yes eo a d (m1.free na)
  rw [ec]
  refine ⟨S1, h1, _, _, m1, r1.set (rx.rep a) i, ?_, q⟩
  exact { nx := fun S2 H2 h2 σ2 s2 f2 m2 r2 q2 => lk.nx S2 H2 h2 _ _ (f1.trans f2) m2 (r2.unset i) q2, rt := fun S2 H2 h2 v u f2 m2 r2 q2 => lk.rt S2 H2 h2 _ _ (f1.trans f2) m2 r2 q2, bk := fun S2 H2 h2 σ2 s2 f2 m2 r2 q2 => lk.bk S2 H2 h2 _ _ (f1.trans f2) m2 (r2.unset i) q2, ct := fun S2 H2 h2 σ2 s2 f2 m2 r2 q2 => lk.ct S2 H2 h2 _ _ (f1.trans f2) m2 (r2.unset i) q2, ex := fun _ _ _ _ _ _ _ _ _ _ _ _ z => z.elim }

/-! ### in the suite: e.f, isinstance(e, C) -/
variable {a : Addr} {oe : Obj} {cls : Value} {d : Option Addr} {pn : List (Addr × Obj)}
def eXf (K : PySem.W.Frag) (a : Addr) (cls : Value) (d : Option Addr) (f : Str) (m : EM) : EM := fun s h Q E => ∃ C, XfC K C ∧ PySem.W.findIn K (.ref C) f = some none ∧ cls = .ref C ∧ m s h (fun x h1 => match x with
  | .exc a' _ d' gs => a' = a ∧ d' = d ∧ match gs.lookup f with
    | some t => Q t h1
    | none => False
  | _ => False) E
theorem j_xf {e : Expr} {m : EM} {pos : Pos} {f : Str} (hz : Zc cls d oe) (hf : ∃ vs, oe.data = .fields vs) (he : JE (X.suite a ((a, oe) :: pn)) W e m) (hb : attributeBase e f X.env (eval e X.env) = eval e X.env := by rfl) :
    JE (X.suite a ((a, oe) :: pn)) W (.Attribute e f pos) (eXf X.K a cls d f m) := ⟨fun pins s σ H Q' I ⟨S, h, s', Q, E, mm, rs, lk, ⟨C, hX, hno, hC, hm⟩, pk⟩ => (pe_xf hX hno hz hf he hb).run pins s σ H Q' I
  ⟨S, h, s', _, E, mm, rs, lk, hm, fun S1 H1 h1 v x f1 m1 r1 q1 => by
    cases r1 with
    | exc s1 e1 rf =>
      obtain ⟨q1, q2, q3⟩ := q1
      subst q1
      split at q3
      · rename_i t et
        obtain ⟨v, ev, rv⟩ := rf.look et
        exact ⟨rfl, hC, _, _, v, q2.symm, e1, ev, pk S1 H1 h1 _ _ f1 m1 rv q3⟩
      · exact q3.elim
    | exc0 =>
      obtain ⟨q1, q2, q3⟩ := q1
      exact q3.elim
    | _ => exact q1.elim⟩⟩
def rIs2 (K : PySem.W.Frag) (a : Addr) (cls : Value) (d : Option Addr) : List V → Hp → VK → Prop := fun xs H Q => ∃ (c D : Addr) (b : Bool), xs = [.ref a, .ref c] ∧ cls = .ref D ∧ ExcC K D ∧ PySem.W.kitOne K (.ref D) (.ref c) = some b ∧ (d = none ∨ ∃ dd fs, d = some dd ∧ H dd = some (.xd fs)) ∧ Q (.bl b) H
theorem call_is2 (hz : Zc cls d oe) (hf : ∃ vs, oe.data = .fields vs) : CallR (X.suite a ((a, oe) :: pn)) (.builtin "isinstance") (rIs2 X.K a cls d) := by
  intro pins s σ H xs us Q I r h
  obtain ⟨c, D, b, rfl, rfl, C, e, hd, q⟩ := h
  cases r with
  | cons rx rr =>
    cases rr with
    | cons rt rr =>
      cases rr
      cases rx
      cases rt
      obtain ⟨hget, _⟩ := I.pin (a, oe) (List.mem_append.mpr (.inl List.mem_cons_self))
      obtain ⟨vs, hv⟩ := hf
      have J : ∃ od, PySem.W.InstAt s.heap a oe D od := by
        obtain ⟨oc, od, oda, osl⟩ := oe
        obtain ⟨h1, h2⟩ := hz
        dsimp only at h1 h2 hv
        subst h1 h2 hv
        rcases hd with rfl | ⟨dd, fs, rfl, e2⟩
        · exact ⟨none, hget, rfl, rfl, trivial⟩
        · have hx : ObjOk X.prog X.w H s.heap dd (.xd fs) := I.hok dd _ e2
          obtain ⟨mA, hns, hr⟩ := hx
          obtain ⟨od, ho, hl⟩ := lookIn_ns hns
          exact ⟨some od, hget, rfl, rfl, ho⟩
      obtain ⟨od, J⟩ := J
      have hcl : (PySem.W.clsIn X.K D).isSome = true := by
        obtain ⟨cd, hc, _⟩ := PySem.W.any_some C.hd
        rw [hc]; rfl
      exact PySem.W.kia_one (PySem.W.kitx_exc hcl C.hg C.hk C.hs C.ha C.hn C.ht C.hm) I.kIn J e (fun z => nomatch z) fun tk => ⟨.bl b, H, I.kept (t' := tk) fun _ _ z => z, rfl, q⟩
def oIsE (K : PySem.W.Frag) (a : Addr) (cls : Value) (d : Option Addr) : RLT := fun xs h Q => match xs with
  | [.exc a' _ d' _, .ref c] => a' = a ∧ d' = d ∧ ∃ D b, cls = .ref D ∧ ExcC K D ∧ PySem.W.kitOne K (.ref D) (.ref c) = some b ∧ Q (.bl b) h
  | _ => False
theorem c_isE {K : PySem.W.Frag} : CP K (rIs2 K a cls d) (oIsE K a cls d) := fun S H h vs xs Q Q' m r q pk => by
  unfold oIsE at q
  split at q
  · obtain ⟨rfl, rfl, D, b, hC, C, e, q⟩ := q
    cases r with
    | cons r1 r =>
      cases r with
      | cons r2 r =>
        cases r
        cases r2
        cases r1 with
        | exc s1 e1 _ => exact ⟨_, D, b, rfl, hC, C, e, .inr ⟨_, _, rfl, e1⟩, pk S H h _ _ Fut.refl m (.bl b) q⟩
        | exc0 => exact ⟨_, D, b, rfl, hC, C, e, .inl rfl, pk S H h _ _ Fut.refl m (.bl b) q⟩
  · exact q.elim
theorem names_own {x : Str} {c : Addr} (hg : Gl X x) (hm : X.mg x = some (.ref c)) (hdb : (x == ("__debug__" : Str)) = false := by decide) : Names X x (.ref c) := ⟨hg, hdb, .inl hm⟩
end
end TL

/-! TLY: own classes: fields, methods, properties, making. -/
namespace TL
open PySem L2
def putT (f : Str) (v : T) : List (Str × T) → List (Str × T)
  | [] => [(f, v)]
  | (g, x) :: r => if g = f then (g, v) :: r else (g, x) :: putT f v r
section
variable {K : PySem.W.Frag} {S : Fz} {H : Hp} {h : Hq}
theorem RepF.put {f : Str} {v : V} {t : T} (r : Rep K S H v t) : ∀ {fs : List (Str × V)} {gs : List (Str × T)}, RepF K S H fs gs → RepF K S H (putF f v fs) (putT f t gs)
  | _, _, .nil => .cons r .nil
  | _, _, .cons (f := g) q rest => by
    unfold putF putT
    split
    · exact .cons r rest
    · exact .cons q (RepF.put r rest)
theorem RepF.length : ∀ {fs : List (Str × V)} {gs : List (Str × T)}, RepF K S H fs gs → fs.length = gs.length
  | _, _, .nil => rfl
  | _, _, .cons _ q => congrArg (· + 1) (RepF.length q)
theorem RepF.nolook : ∀ {fs : List (Str × V)} {gs : List (Str × T)} {f : Str}, RepF K S H fs gs → gs.lookup f = none → fs.lookup f = none
  | _, _, _, .nil, e => rfl
  | _, _, f, .cons (f := g) r q, e => by
    rw [List.lookup_cons] at e ⊢
    cases z : f == g with
    | true => rw [z] at e; cases e
    | false => rw [z] at e; exact RepF.nolook q e
/-- an object, followed or not -/
def insOf (h : Hq) (x : T) : Option (Addr × List (Str × T)) := match x with
  | .ins C gs => some (C, gs)
  | .ref p => match h p with
    | some (.ins C gs) => some (C, gs)
    | _ => none
  | _ => none
theorem insOf_ok (m : Sim K S H h) {v : V} {x : T} {C : Addr} {gs : List (Str × T)} (r : Rep K S H v x) (e : insOf h x = some (C, gs)) : ∃ a dx fs, v = .ref a ∧ H a = some (.ins C dx fs) ∧ RepF K S H fs gs := by
  cases r with
  | ins s hh q => cases e; exact ⟨_, _, _, rfl, hh, q⟩
  | ref a =>
    simp only [insOf] at e
    cases z : h a with
    | none => rw [z] at e; cases e
    | some o =>
      rw [z] at e
      cases o with
      | ins C' gs' =>
        cases e
        obtain ⟨u, e1, dx, fs, e2, r2⟩ := m.ob a _ z
        subst e2
        exact ⟨a, dx, fs, rfl, e1, r2⟩
      | lst _ => cases e
      | pool => cases e
      | dK _ => cases e
      | dT _ => cases e
  | _ => cases e
end

/-! ### o.f -/
def eFld (C : Addr) (f : Str) (m : EM) : EM := fun s h Q E => m s h (fun x h1 => match insOf h1 x with
  | some (C', gs) => C' = C ∧ match gs.lookup f with
    | some t => Q t h1
    | none => False
  | none => False) E
section
variable {X : Cx} {W : WX} {C : Addr}
theorem j_fld {e : Expr} {m : EM} {f : Str} {pos : Pos} (c : Cls X.K C) (n : NoAttr X.K C f) (he : JE X W e m) (hb : attributeBase e f X.env (eval e X.env) = eval e X.env := by rfl) : JE X W (.Attribute e f pos) (eFld C f m) := PE.wk (pe_fld he hb) fun σ H Q' ⟨S, h, s, Q, E, mm, rs, lk, hm, pk⟩ =>
  ⟨S, h, s, _, E, mm, rs, lk, hm, fun S1 H1 h1 v x f1 m1 r1 q1 => by
    split at q1
    · rename_i C' gs e
      obtain ⟨rfl, q1⟩ := q1
      split at q1
      · rename_i t et
        obtain ⟨a, dx, fs, rfl, ea, rf⟩ := insOf_ok m1 r1 e
        obtain ⟨y, ey, ry⟩ := rf.look et
        exact ⟨a, C', dx, fs, y, rfl, ea, c, n, ey, pk S1 H1 h1 _ _ f1 m1 ry q1⟩
      · exact q1.elim
    · exact q1.elim⟩
/-- o.f = v -/
def sFldT (C : Addr) (f : Str) (mo mv : EM) : SM := fun D s h => mv s h (fun y h1 => mo s h1 (fun x h2 => match x with
  | .ref p => match h2 p with
    | some (.ins C' gs) => C' = C ∧ gs.length < 1000 ∧ D.nx s (put h2 p (.ins C (putT f y gs)))
    | _ => False
  | _ => False) D.ex) D.ex
theorem js_fld {o e : Expr} {mo mv : EM} {f : Str} {pos pos' : Pos} (c : Cls X.K C) (n : NoAttr X.K C f) (ho : JE X W o mo) (hv : JE X W e mv) (hs : swapsWith e (some (.Attribute o f pos')) pos.line X.env = pure false := by rfl) : JS X W (.Assign [.Attribute o f pos'] e pos) (sFldT C f mo mv) := PS.wk (ps_fld ho hv hs) fun D' σ H ⟨S, h, s, D, m, rs, lk, hm⟩ =>
  ⟨S, h, s, _, D.ex, m, rs, lk.ex, hm, fun S1 H1 h1 v y f1 m1 r1 q1 => ⟨S1, h1, s, _, D.ex, m1, rs.fut f1, lk.ex.fut f1, q1, fun S2 H2 h2 w x f2 m2 r2 q2 => by
    split at q2
    · split at q2
      · rename_i p _ C' gs e
        obtain ⟨rfl, l, q2⟩ := q2
        cases r2
        obtain ⟨u, e1, dx, fs, e2, rf⟩ := m2.ob p _ e
        subst e2
        have f3 : Fut S2 H2 S2 (upd H2 p (.ins C' dx (putF f v fs))) := fut_upd (m2.nS' e)
        have f13 := (f1.trans f2).trans f3
        exact ⟨p, C', dx, fs, rfl, e1, c, n, by rw [rf.length]; exact l, lk.nx S2 _ _ σ s f13 (m2.write (o' := .ins C' (putT f y gs)) e ⟨dx, _, rfl, RepF.put (r1.fut f2) rf⟩) (rs.fut f13) q2⟩
      · exact q2.elim
    · exact q2.elim⟩⟩

/-! ### o.m(e, ..) -/
def tMethW (C : Addr) (m : Str) (sp : Sp) (E : L2.St → XK) (ta : TE) (t : TA) : TE := fun σ H Q => ta σ H fun x H1 => ∃ a dx fs, x = .ref a ∧ H1 a = some (.ins C dx fs) ∧ fs.lookup m = none ∧ t σ H1 fun vs H2 => sp (x :: vs) H2 Q (E σ)
theorem pe_methW {CX : CXT} {k : Nat} {f : Addr} {fd : FuncData} {ps : List Str} {sp : Sp} {E : L2.St → XK} {m : Str} {o e : Expr} {es : List Expr} {ta : TE} {t : TA} {pos apos : Pos} {pl : Sem Bool} (he : PE X o ta) (c : Cls X.K C) (hm : Meth X.K C m f) (F : FnOk X.prog X.w X.K X.mg X.base CX k f fd ps sp) (hr : Room k X.A) (hb : Binds X.K fd ps []) (hx : ∀ σ, PassesAt CX X σ (E σ)) (ha : PA X (e :: es) t)
    (hst : starEach (e :: es) X.env = (false, eval e X.env) :: starEach es X.env) (hpl : (backTo pos (starEach es X.env)).any (·.1) = false)
    (ht : eval (.Call (.Attribute o m apos) (e :: es) [] pos) X.env = (do
      let ov ← eval o X.env
      standAt apos.atName
      let (f, first) ← holding [ov] (getMethod ov m pl)
      callWith pos f first (backTo pos (starEach (e :: es) X.env)) (backToKw pos (keywordEach [] X.env)))) :
    PE X (.Call (.Attribute o m apos) (e :: es) [] pos) (tMethW C m sp E ta t) := ⟨fun pins s σ H Q I h => by
  refine PySem.W.methodCall_KW (pl := pl) (thn (he.run pins s σ H _ I h) fun u s1 ⟨x, H1, I1, rx, a, dx, fs, ex, ea, l, q⟩ => ?_) ht
  subst ex
  obtain rfl : u = Value.ref a := rx
  refine getmeth_ok I1 ea c hm l (PySem.W.callWith_K (first := [.ref a]) (h₀ := X.base) I.ok.mod.kin hm.kp (thn (ha.run pos pins s1 σ H1 _ I1 q) fun us s2 ⟨vs, H2, I2, r, q2⟩ => ⟨I2.kIn, ?_⟩) hst hpl)
  exact run_fnS (us := .ref a :: us) (vs := .ref a :: vs) F hr hb (hx σ) I2 (.cons rfl r) q2⟩
theorem pe_methW0 {CX : CXT} {k : Nat} {f : Addr} {fd : FuncData} {ps : List Str} {sp : Sp} {E : L2.St → XK} {m : Str} {o : Expr} {ta : TE} {pos apos : Pos} {pl : Sem Bool} (he : PE X o ta) (c : Cls X.K C) (hm : Meth X.K C m f) (F : FnOk X.prog X.w X.K X.mg X.base CX k f fd ps sp) (hr : Room k X.A) (hb : Binds X.K fd ps []) (hx : ∀ σ, PassesAt CX X σ (E σ))
    (ht : eval (.Call (.Attribute o m apos) [] [] pos) X.env = (do
      let ov ← eval o X.env
      standAt apos.atName
      let (f, first) ← holding [ov] (getMethod ov m pl)
      callWith pos f first (backTo pos (starEach [] X.env)) (backToKw pos (keywordEach [] X.env)))) :
    PE X (.Call (.Attribute o m apos) [] [] pos) (tMethW C m sp E ta tNil) := ⟨fun pins s σ H Q I h => by
  refine PySem.W.methodCall_KW (pl := pl) (thn (he.run pins s σ H _ I h) fun u s1 ⟨x, H1, I1, rx, a, dx, fs, ex, ea, l, q⟩ => ?_) ht
  subst ex
  obtain rfl : u = Value.ref a := rx
  exact getmeth_ok I1 ea c hm l (PySem.W.callWith_K0 (first := [.ref a]) I1.kIn hm.kp (run_fnS (us := [.ref a]) (vs := [.ref a]) F hr hb (hx σ) I1 (.cons rfl .nil) q))⟩
def eMeth (C : Addr) (nm : Str) (n : Nat) (c : Con) (mo : EM) (ma : AM) : EM := fun s h Q E => mo s h (fun x h1 => match insOf h1 x with
  | some (C', gs) => C' = C ∧ gs.lookup nm = none ∧ ma s h1 (fun ts h2 => ts.length + 1 = n ∧ c (x :: ts) h2 Q fun y h3 => E y s h3) E
  | none => False) E
theorem lift_meth {K : PySem.W.Frag} {nm : Str} {n : Nat} {c : Con} {mo : EM} {ma : AM} : ∀ σ H Q, liftE K W (eMeth C nm n c mo ma) σ H Q → tMethW C nm (liftSp K n c) (WE W) (liftE K W mo) (liftA K W ma) σ H Q := fun σ H Q' ⟨S, h, s, Q, E, mm, rs, lk, hm, pk⟩ =>
  ⟨S, h, s, _, E, mm, rs, lk, hm, fun S1 H1 h1 v x f1 m1 r1 q1 => by
    split at q1
    · rename_i C' gs e
      obtain ⟨rfl, l, q1⟩ := q1
      obtain ⟨a, dx, fs, rfl, ea, rf⟩ := insOf_ok m1 r1 e
      exact ⟨a, dx, fs, rfl, ea, rf.nolook l, S1, h1, s, _, E, m1, rs.fut f1, lk.fut f1, q1, fun S2 H2 h2 vs ts f2 m2 r2 ⟨l2, q2⟩ => ⟨S2, h2, x :: ts, Q, _, m2, .cons (r1.fut f2) r2, l2, q2, pk.fut (f1.trans f2), fun S3 H3 h3 y cls d f3 m3 r3 q3 => lk S3 H3 h3 σ s y cls d ((f1.trans f2).trans f3) m3 (rs.fut ((f1.trans f2).trans f3)) r3 q3⟩⟩
    · exact q1.elim⟩
theorem j_meth {CX : CXT} {k n : Nat} {f : Addr} {fd : FuncData} {ps : List Str} {c : Con} {m : Str} {o e : Expr} {es : List Expr} {mo : EM} {ma : AM} {pos apos : Pos} {pl : Sem Bool} (cl : Cls X.K C) (hm : Meth X.K C m f) (F : FnOk X.prog X.w X.K X.mg X.base CX k f fd ps (liftSp X.K n c)) (hr : Room k X.A) (hb : Binds X.K fd ps []) (hx : ∀ σ, PassesAt CX X σ (WE W σ)) (he : JE X W o mo) (ha : JA X W (e :: es) ma)
    (hst : starEach (e :: es) X.env = (false, eval e X.env) :: starEach es X.env := by rfl) (hpl : (backTo pos (starEach es X.env)).any (·.1) = false := by rfl)
    (ht : eval (.Call (.Attribute o m apos) (e :: es) [] pos) X.env = (do
      let ov ← eval o X.env
      standAt apos.atName
      let (f, first) ← holding [ov] (getMethod ov m pl)
      callWith pos f first (backTo pos (starEach (e :: es) X.env)) (backToKw pos (keywordEach [] X.env))) := by rfl) :
    JE X W (.Call (.Attribute o m apos) (e :: es) [] pos) (eMeth C m n c mo ma) := PE.wk (pe_methW he cl hm F hr hb hx ha hst hpl ht) lift_meth
theorem j_meth0 {CX : CXT} {k n : Nat} {f : Addr} {fd : FuncData} {ps : List Str} {c : Con} {m : Str} {o : Expr} {mo : EM} {pos apos : Pos} {pl : Sem Bool} (cl : Cls X.K C) (hm : Meth X.K C m f) (F : FnOk X.prog X.w X.K X.mg X.base CX k f fd ps (liftSp X.K n c)) (hr : Room k X.A) (hb : Binds X.K fd ps []) (hx : ∀ σ, PassesAt CX X σ (WE W σ)) (he : JE X W o mo)
    (ht : eval (.Call (.Attribute o m apos) [] [] pos) X.env = (do
      let ov ← eval o X.env
      standAt apos.atName
      let (f, first) ← holding [ov] (getMethod ov m pl)
      callWith pos f first (backTo pos (starEach [] X.env)) (backToKw pos (keywordEach [] X.env))) := by rfl) :
    JE X W (.Call (.Attribute o m apos) [] [] pos) (eMeth C m n c mo aNil) := PE.wk (pe_methW0 he cl hm F hr hb hx ht) fun σ H Q' q => by
  obtain ⟨S, h, s, Q, E, mm, rs, lk, hm, pk⟩ := lift_meth σ H Q' q
  exact ⟨S, h, s, Q, E, mm, rs, lk, hm, fun S1 H1 h1 v u f1 m1 r1 q1 => by
    obtain ⟨a, dx, fs, e1, e2, e3, q2⟩ := pk S1 H1 h1 v u f1 m1 r1 q1
    obtain ⟨S2, h2, s2, Q2, E2, m2, rs2, lk2, hm2, pk2⟩ := q2
    exact ⟨a, dx, fs, e1, e2, e3, pk2 S2 H1 h2 [] [] Fut.refl m2 .nil hm2⟩⟩
/-! ### o.p, a property -/
def eProp (C : Addr) (c : Con) (mo : EM) : EM := fun s h Q E => mo s h (fun x h1 => match insOf h1 x with
  | some (C', _) => C' = C ∧ c [x] h1 Q fun _ _ => False
  | none => False) E
theorem j_prop {P : Program} {w : World} {k : Nat} {p g : Addr} {fd : FuncData} {ps : List Str} {c : Con} {f : Str} {o : Expr} {mo : EM} {pos : Pos} (hP : X.prog = P) (hw : X.w = w) (cl : Cls X.K C) (hp : PropOf X.K C f p g) (F : FnOk X.prog X.w X.K X.mg X.base (L2.CX P w) k g fd ps (liftSp X.K 1 c)) (hr : Room (k + 1) X.A) (hb : Binds X.K fd ps []) (he : JE X W o mo)
    (hab : attributeBase o f X.env (eval o X.env) = eval o X.env := by rfl) : JE X W (.Attribute o f pos) (eProp C c mo) := PE.wk (pe_prop (E := fun _ _ _ => False) he cl hp F hr hb .nil noPass hab) fun σ H Q' ⟨S, h, s, Q, E, mm, rs, lk, hm, pk⟩ =>
  ⟨S, h, s, _, E, mm, rs, lk, hm, fun S1 H1 h1 v x f1 m1 r1 q1 => by
    split at q1
    · rename_i C' gs e
      obtain ⟨rfl, q1⟩ := q1
      obtain ⟨a, dx, fs, rfl, ea, rf⟩ := insOf_ok m1 r1 e
      exact ⟨a, dx, fs, rfl, ea, S1, h1, [x], Q, _, m1, .cons r1 .nil, rfl, q1, pk.fut f1, fun _ _ _ _ _ _ _ _ _ z => z.elim⟩
    · exact q1.elim⟩

/-! ### C(e, .., k = v, ..) -/
def tMakeW (C : Addr) (n m : Nat) (sp : Sp) (E : L2.St → XK) (t tk : TA) : TE := fun σ H Q => t σ H fun vs H1 => tk σ H1 fun zs H2 => vs.length = n ∧ zs.length = m ∧ ∀ x dx, H2 x = none → H2 dx = none → dx ≠ x →
  sp (.ref x :: (vs ++ zs)) (upd (upd H2 dx (.own x)) x (.ins C dx [])) (fun v H3 => v = .non ∧ Q (.ref x) H3) (E σ)
/-- how C's __init__ binds: n values (behind self), the keywords ks -/
def KBw (K : PySem.W.Frag) (fd : FuncData) (ps : List Str) (n : Nat) (ks : List Str) : Prop := ∀ (s : Shared) (us ws : List Value), K.In s.heap → us.length = n → ws.length = ks.length → BindsTo s fd ⟨us, ks.zip ws⟩ (ps.zip (us ++ ws))
theorem _root_.L2.Fun.kbw {K : PySem.W.Frag} {x qual : Str} {st : Stmt} {f : Addr} {fd : FuncData} {ps ks : List Str} {n : Nat} (F : Fun K x qual st f fd)
    (h : ∀ (kV doc pm : Value) (an : Option Addr) (cdv ct : Value) (us ws : List Value), us.length = n → ws.length = ks.length → bindArgs (PySem.W.fnOf x qual (defArgs st) (defBody st) (defScope st) .none kV doc pm an cdv ct) ⟨us, ks.zip ws⟩ = pure (ps.zip (us ++ ws))) : KBw K fd ps n ks := by
  obtain ⟨oc, od, kV, doc, pm, an, cdv, ct, osl, rfl, lk, hcd⟩ := F.ex
  exact fun s us ws _ l1 l2 => .of_eq (h kV doc pm an cdv ct us ws l1 l2)
theorem run_makeW {CX : CXT} {k n : Nat} {f : Addr} {fd : FuncData} {ps ks : List Str} {sp : Sp} {E : XK} {pins : List (Addr × Obj)} {σ : L2.St} {H : Hp} {s : Shared} {Q : VK} {us ws : List Value} {vs zs : List V} (M : Mk X.K C f) (F : FnOk X.prog X.w X.K X.mg X.base CX k f fd ps sp) (hr : Room (k + 1) X.A) (hb : KBw X.K fd ps (n + 1) ks) (hx : PassesAt CX X σ E)
    (I : Inv X pins σ H s) (r : Vals vs us) (rz : Vals zs ws) (l1 : vs.length = n) (l2 : zs.length = ks.length)
    (h : ∀ x dx, H x = none → H dx = none → dx ≠ x → sp (.ref x :: (vs ++ zs)) (upd (upd H dx (.own x)) x (.ins C dx [])) (fun v H2 => v = .non ∧ Q (.ref x) H2) E) :
    wpAny (model X.prog X.w) X.A (call (.ref C) us (ks.zip ws)) (EP X pins σ Q) X.xe s := by
  have hq := h (s.heap.objs.size + 1) s.heap.objs.size (I.hok.fresh (Nat.le_succ _)) (I.hok.fresh (Nat.le_refl _)) (Nat.ne_of_lt (Nat.lt_succ_self _))
  have I2 := Inv.made (C := C) I
  have r2 : Vals (V.ref (s.heap.objs.size + 1) :: (vs ++ zs)) (Value.ref (s.heap.objs.size + 1) :: (us ++ ws)) := .cons rfl (r.append rz)
  have n1 : (Value.ref (s.heap.objs.size + 1) :: us).length = n + 1 := by rw [List.length_cons, ← r.length, l1]
  have bd := hb _ (Value.ref (s.heap.objs.size + 1) :: us) ws I2.kIn n1 (rz.length.symm.trans l2)
  refine wpAny_call (make_map (f := f) I.kIn M.makes M.init (beq_iff_eq.mp M.fn) (codeAny_mono (F.run _ X.stack _ _ _ _ _ _ E (hr.make C us (ks.zip ws)) (I2.env0.make C us (ks.zip ws)) bd r2 hq) fun o s' hq' => ?_))
  rcases o with e | (u | _ | _ | _)
  · exact hx pins _ _ e s' I2 hq'
  all_goals first
    | exact False.elim hq'
    | (obtain ⟨v, H', I3, rv, ev, q3⟩ := I2.after hq'
       subst ev
       exact ⟨rv, ⟨V.ref (s.heap.objs.size + 1), H', I3, rfl, q3⟩⟩)
def JK (X : Cx) (W : WX) (kws : List Keyword) (m : AM) : Prop := L2.PK X kws (liftA X.K W m)
theorem jk_nil : JK X W [] aNil := ⟨fun pos pins s σ H Q' I ⟨S, h, t, Q, E, m, rs, lk, hm, pk⟩ => (pk_nil (X := X)).run pos pins s σ H Q' I (pk S H h [] [] Fut.refl m .nil hm)⟩
theorem jk_cons {e : Expr} {m : EM} {r : AM} {kws : List Keyword} {nm : Option Str} {kpos : Pos} (he : JE X W e m) (hr : JK X W kws r) : JK X W (⟨nm, e, kpos⟩ :: kws) (aCons m r) := ⟨fun pos pins s σ H Q' I ⟨S, h, t, Q, E, m, rs, lk, hm, pk⟩ => (pk_cons he hr).run pos pins s σ H Q' I
  ⟨S, h, t, _, E, m, rs, lk, hm, fun S1 H1 h1 v x f1 m1 r1 q1 => ⟨S1, h1, t, _, E, m1, rs.fut f1, lk.fut f1, q1, fun S2 H2 h2 vs xs f2 m2 r2 q2 => pk S2 H2 h2 _ _ (f1.trans f2) m2 (.cons (r1.fut f2) r2) q2⟩⟩⟩
theorem pe_makeW {CX : CXT} {k n : Nat} {f : Addr} {fd : FuncData} {ps ks : List Str} {sp : Sp} {E : L2.St → XK} {x : Str} {p pos : Pos} {e : Expr} {es : List Expr} {kws : List Keyword} {t tk : TA} (M : Mk X.K C f) (F : FnOk X.prog X.w X.K X.mg X.base CX k f fd ps sp) (hr : Room (k + 1) X.A) (hg : Gl X x) (hm : X.mg x = some (.ref C)) (hb : KBw X.K fd ps (n + 1) ks) (hx : ∀ σ, PassesAt CX X σ (E σ)) (ha : PA X (e :: es) t) (hkw : L2.PK X kws tk)
    (hall : (backToKw pos (keywordEach kws X.env)).all (·.1.isSome) = true) (hks : (backToKw pos (keywordEach kws X.env)).filterMap (·.1) = ks) (hdb : (x == ("__debug__" : Str)) = false)
    (he : starEach (e :: es) X.env = (false, eval e X.env) :: starEach es X.env) (hpl : ((backTo pos (starEach (e :: es) X.env)).any (·.1) || (backToKw pos (keywordEach kws X.env)).any (·.1.isNone)) = false) :
    PE X (.Call (.Name x p) (e :: es) kws pos) (tMakeW C n ks.length sp E t tk) := ⟨fun pins s σ H Q I h => by
  refine wpAny_Call_Name_kw (ld_glob I hg hm (PySem.W.callWith_KW (h₀ := X.base) I.ok.mod.kin M.kp hall (thn (ha.run pos pins s σ H _ I h) fun us s1 ⟨vs, H1, I1, r, q⟩ => ?_) hpl he) hdb)
  refine thn (hkw.run pos pins s1 σ H1 _ I1 q) fun ws s2 ⟨zs, H2, I2, rz, l1, l2, q2⟩ => ⟨I2.kIn, ?_⟩
  rw [hks]
  exact run_makeW M F hr hb (hx σ) I2 r rz l1 l2 q2⟩
def eMake (C : Addr) (n m : Nat) (c : Con) (ma mk : AM) : EM := fun s h Q E => ma s h (fun ts h1 => mk s h1 (fun zs h2 => ts.length = n ∧ zs.length = m ∧ ∀ p, h2 p = none → c (.ref p :: (ts ++ zs)) (put h2 p (.ins C [])) (fun v h3 => v = .non ∧ Q (.ref p) h3) fun y h3 => E y s h3) E) E
theorem j_make {CX : CXT} {k n nn mm : Nat} {f : Addr} {fd : FuncData} {ps ks : List Str} {c : Con} {x : Str} {p pos : Pos} {e : Expr} {es : List Expr} {kws : List Keyword} {ma mk : AM} (M : Mk X.K C f) (F : FnOk X.prog X.w X.K X.mg X.base CX k f fd ps (liftSp X.K nn c)) (hr : Room (k + 1) X.A) (hg : Gl X x) (hm : X.mg x = some (.ref C)) (hb : KBw X.K fd ps (n + 1) ks) (hx : ∀ σ, PassesAt CX X σ (WE W σ)) (ha : JA X W (e :: es) ma) (hkw : JK X W kws mk) (hmm : ks.length = mm := by rfl) (hnn : nn = 1 + (n + mm) := by rfl)
    (hall : (backToKw pos (keywordEach kws X.env)).all (·.1.isSome) = true := by rfl) (hks : (backToKw pos (keywordEach kws X.env)).filterMap (·.1) = ks := by rfl) (hdb : (x == ("__debug__" : Str)) = false := by decide)
    (he : starEach (e :: es) X.env = (false, eval e X.env) :: starEach es X.env := by rfl) (hpl : ((backTo pos (starEach (e :: es) X.env)).any (·.1) || (backToKw pos (keywordEach kws X.env)).any (·.1.isNone)) = false := by rfl) :
    JE X W (.Call (.Name x p) (e :: es) kws pos) (eMake C n mm c ma mk) := PE.wk (pe_makeW M F hr hg hm hb hx ha hkw hall hks hdb he hpl) fun σ H Q' ⟨S, h, s, Q, E, mm, rs, lk, hm, pk⟩ =>
  ⟨S, h, s, _, E, mm, rs, lk, hm, fun S1 H1 h1 vs ts f1 m1 r1 q1 => ⟨S1, h1, s, _, E, m1, rs.fut f1, lk.fut f1, q1, fun S2 H2 h2 zs us f2 m2 r2 ⟨l1, l2, q2⟩ => ⟨by rw [r1.length]; exact l1, by rw [r2.length, hmm]; exact l2, fun x dx nx nd ne => by
    have f12 := f1.trans f2
    have m3 : Sim X.K S2 (upd H2 dx (.own x)) h2 := m2.side nd
    have nx' : upd H2 dx (.own x) x = none := by rw [upd_ne (Ne.symm ne)]; exact nx
    have f3 : Fut S2 H2 S2 (upd (upd H2 dx (.own x)) x (.ins C dx [])) := (fut_upd (m2.nS nd)).trans (fut_upd (m3.nS nx'))
    have m4 : Sim X.K S2 (upd (upd H2 dx (.own x)) x (.ins C dx [])) (put h2 x (.ins C [])) := m3.new nx' ⟨dx, [], rfl, .nil⟩
    refine ⟨S2, _, .ref x :: (ts ++ us), _, _, m4, .cons (.ref x) ((r1.fut (f2.trans f3)).append (r2.fut f3)), ?_, q2 x (m2.free nx), ?_, ?_⟩
    · show (ts ++ us).length + 1 = _
      rw [List.length_append, l1, l2, hnn]; omega
    · intro S5 H5 h5 v u f5 m5 r5 ⟨e5, q5⟩
      subst e5
      cases r5
      exact ⟨rfl, pk S5 H5 h5 _ _ (f12.trans (f3.trans f5)) m5 (.ref x) q5⟩
    · intro S5 H5 h5 y cls d f5 m5 r5 q5
      exact lk S5 H5 h5 σ s y cls d (f12.trans (f3.trans f5)) m5 (rs.fut (f12.trans (f3.trans f5))) r5 q5⟩⟩⟩
/-! ### x, y, z = a, b, c -/
def sPar3 (i j l : Nat) (a : AM) : SM := fun D s h => a s h (fun ts h1 => match ts with
  | [x, y, z] => D.nx (((s.set i (some x)).set j (some y)).set l (some z)) h1
  | _ => False) D.ex
theorem js_par3 {i j l : Nat} {x y z : Str} {a b c : Expr} {m : AM} {px py pz pt pos : Pos} {kt k2 pt2} (hc : X.calm = true) (hN : X.N.Nodup) (hi : X.N[i]? = some x) (hj : X.N[j]? = some y) (hl : X.N[l]? = some z) (hij : i ≠ j) (hil : i ≠ l) (hjl : j ≠ l)
    (hx : X.env.scope.names.lookup x = some .local) (hy : X.env.scope.names.lookup y = some .local) (hz : X.env.scope.names.lookup z = some .local) (ha : JA X W [a, b, c] m)
    (hw : swappedStores [.Tuple [.Name x px, .Name y py, .Name z pz] kt pt] (.Tuple [a, b, c] k2 pt2) X.env = pure (some [x, y, z]))
    (hs : swapsWithSole [.Tuple [.Name x px, .Name y py, .Name z pz] kt pt] (.Tuple [a, b, c] k2 pt2) pos.line X.env = pure false := by rfl) :
    JS X W (.Assign [.Tuple [.Name x px, .Name y py, .Name z pz] kt pt] (.Tuple [a, b, c] k2 pt2) pos) (sPar3 i j l m) := PS.wk (ps_par3 hc hN hi hj hl hij hil hjl hx hy hz ha hw hs) fun D' σ H ⟨S, h, s, D, m, rs, lk, hm⟩ =>
  ⟨S, h, s, _, D.ex, m, rs, lk.ex, hm, fun S1 H1 h1 vs ts f1 m1 r1 q1 => by
    split at q1
    · cases r1 with
      | cons ra rn => cases rn with
        | cons rb rn => cases rn with
          | cons rc rn => cases rn; exact ⟨_, _, _, rfl, lk.nx S1 H1 h1 _ _ f1 m1 ((((rs.fut f1).set ra i).set rb j).set rc l) q1⟩
    · exact q1.elim⟩
end
end TL

namespace TL
open PySem L2
/-! ### calls with keywords, lacking ones by their defaults -/
theorem vals_pick {xs : List V} {us : List Value} (r : Vals xs us) : ∀ idx : List Nat, Vals (idx.filterMap fun i => xs[i]?) (idx.filterMap fun i => us[i]?)
  | [] => .nil
  | i :: idx => by
    rw [List.filterMap_cons, List.filterMap_cons]
    cases e : xs[i]? with
    | none =>
      have : us[i]? = none := by
        have l := r.length
        have := List.getElem?_eq_none_iff.mp e
        exact List.getElem?_eq_none_iff.mpr (by omega)
      rw [this]
      exact vals_pick r idx
    | some x =>
      obtain ⟨u, e2, r2⟩ := r.get e
      rw [e2]
      exact .cons r2 (vals_pick r idx)
theorem repL_pick {K : PySem.W.Frag} {S : Fz} {H : Hp} {vs : List V} {ts : List T} (r : RepL K S H vs ts) : ∀ idx : List Nat, RepL K S H (idx.filterMap fun i => vs[i]?) (idx.filterMap fun i => ts[i]?)
  | [] => .nil
  | i :: idx => by
    rw [List.filterMap_cons, List.filterMap_cons]
    cases e : ts[i]? with
    | none =>
      have : vs[i]? = none := by
        have l := r.length
        have := List.getElem?_eq_none_iff.mp e
        exact List.getElem?_eq_none_iff.mpr (by omega)
      rw [this]
      exact repL_pick r idx
    | some x =>
      obtain ⟨u, e2, r2⟩ := r.get e
      rw [e2]
      exact .cons r2 (repL_pick r idx)
structure KBt (K : PySem.W.Frag) (fd : FuncData) (ps : List Str) (n : Nat) (ks : List Str) (gT : List T → List T → List T) : Prop where
  ex : ∃ g gV, KBn K fd ps n ks g gV ∧ ∀ S H vs zs ts us, RepL K S H vs ts → RepL K S H zs us → ts.length = n → us.length = ks.length → RepL K S H (gV vs zs) (gT ts us)
theorem kbt_of {K : PySem.W.Frag} {x qual : Str} {params : Arguments} {body : List Stmt} {scope : Scope} {kws : List (Str × V)} {f : Addr} {fd : FuncData} {ps : List Str} (F : FunD K x qual params body scope [] kws f fd) (n : Nat) (ks : List Str) (ms : List (Str × V)) (ds : List T) (idx : List Nat) (gT : List T → List T → List T)
    (hk : kws ≠ []) (hms : ∀ q ∈ ms, q ∈ kws) (hds : ∀ S H, RepL K S H (ms.map (·.2)) ds) (hg : ∀ ts us, ts.length = n → us.length = ks.length → gT ts us = ts ++ idx.filterMap fun i => (ds ++ us)[i]?)
    (h : ∀ (D : Addr) (doc pm : Value) (an : Option Addr) (cdv ct : Value) (us mv ws : List Value), us.length = n → mv.length = ms.length → ws.length = ks.length →
      KwChain D ((ms.map (·.1)).zip mv) (bindArgs (PySem.W.fnOf x qual params body scope .none (.ref D) doc pm an cdv ct) ⟨us, ks.zip ws⟩) (ps.zip (us ++ idx.filterMap fun i => (mv ++ ws)[i]?))) : KBt K fd ps n ks gT := by
  obtain ⟨mv, hb⟩ := F.kbinds0 n ks ms (fun {α} us mv ws => us ++ idx.filterMap fun i => (mv ++ ws)[i]?) hk hms (fun r1 r2 r3 => r1.append (vals_pick (r2.append r3) idx)) h
  refine ⟨_, _, hb, fun S H vs zs ts us r1 r2 l1 l2 => ?_⟩
  rw [hg ts us l1 l2]
  exact r1.append (repL_pick ((hds S H).append r2) idx)
theorem funD_of {K : PySem.W.Frag} {x qual : Str} {st : Stmt} {f : Addr} {oc : Value} {od an : Option Addr} {osl : Array (Option Value)} {D : Addr} {doc pm cdv ct : Value} {kws : List (Str × V)} (l : K.lookup f = some ⟨oc, od, .func (PySem.W.fnOf x qual (defArgs st) (defBody st) (defScope st) .none (.ref D) doc pm an cdv ct), osl⟩)
    (c : PySem.W.codeIn K cdv qual = true) (k : PySem.W.keepIn K (.ref f) = true) (h : ∀ q ∈ kws, ∃ u, PySem.W.nsIn K D q.1 = some (some u) ∧ RelV q.2 u) : FunD K x qual (defArgs st) (defBody st) (defScope st) [] kws f (PySem.W.fnOf x qual (defArgs st) (defBody st) (defScope st) .none (.ref D) doc pm an cdv ct) :=
  ⟨⟨oc, od, .none, .ref D, doc, pm, an, cdv, ct, osl, rfl, l, c, .inl ⟨rfl, rfl⟩, .inr ⟨D, rfl, h⟩⟩, k⟩
section
variable {X : Cx} {W : WX}
theorem run_fnK {CX : CXT} {k n : Nat} {f : Addr} {fd : FuncData} {ps ks : List Str} {sp : Sp} {E : XK} {g : List Value → List Value → List Value} {gV : List V → List V → List V} {pins : List (Addr × Obj)} {σ : L2.St} {H : Hp} {s : Shared} {Q : VK} {us ws : List Value} {vs zs : List V} (F : FnOk X.prog X.w X.K X.mg X.base CX k f fd ps sp) (hr : Room k X.A) (hb : KBn X.K fd ps n ks g gV) (hx : PassesAt CX X σ E)
    (I : Inv X pins σ H s) (r : Vals vs us) (rz : Vals zs ws) (l1 : vs.length = n) (l2 : zs.length = ks.length) (h : sp (gV vs zs) H Q E) : wpAny (model X.prog X.w) X.A (call (.ref f) us (ks.zip ws)) (EP X pins σ Q) X.xe s := by
  have r2 := hb.rel r rz
  refine wpAny_call (codeAny_mono (F.run X.A X.stack s H ⟨us, ks.zip ws⟩ (g us ws) (gV vs zs) Q E hr I.env0 (hb.to s us ws I.kIn (r.length.symm.trans l1) (rz.length.symm.trans l2)) r2 h) fun r s' hq => ?_)
  cases r with
  | error e => exact hx pins H s e s' I hq
  | ok fl =>
    cases fl with
    | ret u => exact I.after hq
    | next => exact False.elim hq
    | brk => exact False.elim hq
    | cont => exact False.elim hq
def tCallK (n m : Nat) (sp : Sp) (gV : List V → List V → List V) (E : L2.St → XK) (t tk : TA) : TE := fun σ H Q => t σ H fun vs H1 => tk σ H1 fun zs H2 => vs.length = n ∧ zs.length = m ∧ sp (gV vs zs) H2 Q (E σ)
theorem pe_callK {CX : CXT} {k n : Nat} {f : Addr} {fd : FuncData} {ps ks : List Str} {sp : Sp} {E : L2.St → XK} {g : List Value → List Value → List Value} {gV : List V → List V → List V} {x : Str} {p pos : Pos} {e : Expr} {es : List Expr} {kws : List Keyword} {t tk : TA} (F : FnOk X.prog X.w X.K X.mg X.base CX k f fd ps sp) (hr : Room k X.A) (hg : Gl X x) (hm : X.mg x = some (.ref f)) (hk : PySem.W.keepIn X.K (.ref f) = true) (hb : KBn X.K fd ps n ks g gV) (hx : ∀ σ, PassesAt CX X σ (E σ))
    (ha : PA X (e :: es) t) (hkw : L2.PK X kws tk) (hall : (backToKw pos (keywordEach kws X.env)).all (·.1.isSome) = true) (hks : (backToKw pos (keywordEach kws X.env)).filterMap (·.1) = ks)
    (hdb : (x == ("__debug__" : Str)) = false) (he : starEach (e :: es) X.env = (false, eval e X.env) :: starEach es X.env)
    (hpl : ((backTo pos (starEach (e :: es) X.env)).any (·.1) || (backToKw pos (keywordEach kws X.env)).any (·.1.isNone)) = false) :
    PE X (.Call (.Name x p) (e :: es) kws pos) (tCallK n ks.length sp gV E t tk) := by
  refine ⟨fun pins s σ H Q I h => ?_⟩
  refine wpAny_Call_Name_kw (ld_glob I hg hm ?_ hdb)
  refine PySem.W.callWith_KW (h₀ := X.base) I.ok.mod.kin hk hall (thn (ha.run pos pins s σ H _ I h) fun us s1 ⟨vs, H1, I1, r, q⟩ => ?_) hpl he
  refine thn (hkw.run pos pins s1 σ H1 _ I1 q) fun ws s2 ⟨zs, H2, I2, rz, l1, l2, q2⟩ => ⟨I2.kIn, ?_⟩
  rw [hks]
  exact run_fnK F hr hb (hx σ) I2 r rz l1 l2 q2
def eCallK (n m N : Nat) (gT : List T → List T → List T) (c : Con) (ma mk : AM) : EM := fun s h Q E => ma s h (fun ts h1 => mk s h1 (fun zs h2 => ts.length = n ∧ zs.length = m ∧ (gT ts zs).length = N ∧ c (gT ts zs) h2 Q fun x h3 => E x s h3) E) E
theorem j_callK {CX : CXT} {k n m N : Nat} {f : Addr} {fd : FuncData} {ps ks : List Str} {c : Con} {gT : List T → List T → List T} {x : Str} {p pos : Pos} {e : Expr} {es : List Expr} {kws : List Keyword} {ma mk : AM} (F : FnOk X.prog X.w X.K X.mg X.base CX k f fd ps (liftSp X.K N c)) (hr : Room k X.A) (hg : Gl X x) (hm : X.mg x = some (.ref f)) (hk : PySem.W.keepIn X.K (.ref f) = true) (hb : KBt X.K fd ps n ks gT) (hx : ∀ σ, PassesAt CX X σ (WE W σ))
    (ha : JA X W (e :: es) ma) (hkw : JK X W kws mk) (hmm : ks.length = m := by rfl) (hall : (backToKw pos (keywordEach kws X.env)).all (·.1.isSome) = true := by rfl) (hks : (backToKw pos (keywordEach kws X.env)).filterMap (·.1) = ks := by rfl)
    (hdb : (x == ("__debug__" : Str)) = false := by decide) (he : starEach (e :: es) X.env = (false, eval e X.env) :: starEach es X.env := by rfl)
    (hpl : ((backTo pos (starEach (e :: es) X.env)).any (·.1) || (backToKw pos (keywordEach kws X.env)).any (·.1.isNone)) = false := by rfl) :
    JE X W (.Call (.Name x p) (e :: es) kws pos) (eCallK n m N gT c ma mk) := by
  obtain ⟨g, gV, hb, hrep⟩ := hb.ex
  exact PE.wk (pe_callK (E := WE W) F hr hg hm hk hb hx ha hkw hall hks hdb he hpl) fun σ H Q' ⟨S, h, s, Q, E, mm, rs, lk, hm, pk⟩ =>
    ⟨S, h, s, _, E, mm, rs, lk, hm, fun S1 H1 h1 vs ts f1 m1 r1 q1 => ⟨S1, h1, s, _, E, m1, rs.fut f1, lk.fut f1, q1, fun S2 H2 h2 zs us f2 m2 r2 ⟨l1, l2, l3, q2⟩ =>
      ⟨by rw [r1.length]; exact l1, by rw [r2.length, hmm]; exact l2, S2, h2, _, Q, _, m2, hrep S2 H2 vs zs ts us (r1.fut f2) r2 l1 (l2.trans hmm.symm), l3, q2, pk.fut (f1.trans f2), fun S3 H3 h3 x cls d f3 m3 r3 q3 => lk S3 H3 h3 σ s x cls d ((f1.trans f2).trans f3) m3 (rs.fut ((f1.trans f2).trans f3)) r3 q3⟩⟩⟩
/-! ### C(.., k = v) with lacking keywords -/
theorem run_makeX {C : Addr} {CX : CXT} {k n : Nat} {f : Addr} {fd : FuncData} {ps ks : List Str} {sp : Sp} {E : XK} {g : List Value → List Value → List Value} {gV : List V → List V → List V} {pins : List (Addr × Obj)} {σ : L2.St} {H : Hp} {s : Shared} {Q : VK} {us ws : List Value} {vs zs : List V} (M : Mk X.K C f) (F : FnOk X.prog X.w X.K X.mg X.base CX k f fd ps sp) (hr : Room (k + 1) X.A) (hb : KBn X.K fd ps (n + 1) ks g gV) (hx : PassesAt CX X σ E)
    (I : Inv X pins σ H s) (r : Vals vs us) (rz : Vals zs ws) (l1 : vs.length = n) (l2 : zs.length = ks.length)
    (h : ∀ x dx, H x = none → H dx = none → dx ≠ x → sp (gV (.ref x :: vs) zs) (upd (upd H dx (.own x)) x (.ins C dx [])) (fun v H2 => v = .non ∧ Q (.ref x) H2) E) :
    wpAny (model X.prog X.w) X.A (call (.ref C) us (ks.zip ws)) (EP X pins σ Q) X.xe s := by
  have hq := h (s.heap.objs.size + 1) s.heap.objs.size (I.hok.fresh (Nat.le_succ _)) (I.hok.fresh (Nat.le_refl _)) (Nat.ne_of_lt (Nat.lt_succ_self _))
  have I2 := Inv.made (C := C) I
  have r1 : Vals (V.ref (s.heap.objs.size + 1) :: vs) (Value.ref (s.heap.objs.size + 1) :: us) := .cons rfl r
  have r2 := hb.rel r1 rz
  have n1 : (Value.ref (s.heap.objs.size + 1) :: us).length = n + 1 := by rw [List.length_cons, ← r.length, l1]
  have bd := hb.to _ (Value.ref (s.heap.objs.size + 1) :: us) ws I2.kIn n1 (rz.length.symm.trans l2)
  refine wpAny_call (make_map (f := f) I.kIn M.makes M.init (beq_iff_eq.mp M.fn) (codeAny_mono (F.run _ X.stack _ _ _ _ _ _ E (hr.make C us (ks.zip ws)) (I2.env0.make C us (ks.zip ws)) bd r2 hq) fun o s' hq' => ?_))
  rcases o with e | (u | _ | _ | _)
  · exact hx pins _ _ e s' I2 hq'
  all_goals first
    | exact False.elim hq'
    | (obtain ⟨v, H', I3, rv, ev, q3⟩ := I2.after hq'
       subst ev
       exact ⟨rv, ⟨V.ref (s.heap.objs.size + 1), H', I3, rfl, q3⟩⟩)
def tMakeX (C : Addr) (n m : Nat) (sp : Sp) (gV : List V → List V → List V) (E : L2.St → XK) (t tk : TA) : TE := fun σ H Q => t σ H fun vs H1 => tk σ H1 fun zs H2 => vs.length = n ∧ zs.length = m ∧ ∀ x dx, H2 x = none → H2 dx = none → dx ≠ x →
  sp (gV (.ref x :: vs) zs) (upd (upd H2 dx (.own x)) x (.ins C dx [])) (fun v H3 => v = .non ∧ Q (.ref x) H3) (E σ)
theorem pe_makeX {C : Addr} {CX : CXT} {k n : Nat} {f : Addr} {fd : FuncData} {ps ks : List Str} {sp : Sp} {E : L2.St → XK} {g : List Value → List Value → List Value} {gV : List V → List V → List V} {x : Str} {p pos : Pos} {e : Expr} {es : List Expr} {kws : List Keyword} {t tk : TA} (M : Mk X.K C f) (F : FnOk X.prog X.w X.K X.mg X.base CX k f fd ps sp) (hr : Room (k + 1) X.A) (hg : Gl X x) (hm : X.mg x = some (.ref C)) (hb : KBn X.K fd ps (n + 1) ks g gV) (hx : ∀ σ, PassesAt CX X σ (E σ)) (ha : PA X (e :: es) t) (hkw : L2.PK X kws tk)
    (hall : (backToKw pos (keywordEach kws X.env)).all (·.1.isSome) = true) (hks : (backToKw pos (keywordEach kws X.env)).filterMap (·.1) = ks) (hdb : (x == ("__debug__" : Str)) = false)
    (he : starEach (e :: es) X.env = (false, eval e X.env) :: starEach es X.env) (hpl : ((backTo pos (starEach (e :: es) X.env)).any (·.1) || (backToKw pos (keywordEach kws X.env)).any (·.1.isNone)) = false) :
    PE X (.Call (.Name x p) (e :: es) kws pos) (tMakeX C n ks.length sp gV E t tk) := ⟨fun pins s σ H Q I h => by
  refine wpAny_Call_Name_kw (ld_glob I hg hm (PySem.W.callWith_KW (h₀ := X.base) I.ok.mod.kin M.kp hall (thn (ha.run pos pins s σ H _ I h) fun us s1 ⟨vs, H1, I1, r, q⟩ => ?_) hpl he) hdb)
  refine thn (hkw.run pos pins s1 σ H1 _ I1 q) fun ws s2 ⟨zs, H2, I2, rz, l1, l2, q2⟩ => ⟨I2.kIn, ?_⟩
  rw [hks]
  exact run_makeX M F hr hb (hx σ) I2 r rz l1 l2 q2⟩
def eMakeX (C : Addr) (n m N : Nat) (gT : List T → List T → List T) (c : Con) (ma mk : AM) : EM := fun s h Q E => ma s h (fun ts h1 => mk s h1 (fun zs h2 => ts.length = n ∧ zs.length = m ∧ ∀ p, h2 p = none → (gT (.ref p :: ts) zs).length = N ∧ c (gT (.ref p :: ts) zs) (put h2 p (.ins C [])) (fun v h3 => v = .non ∧ Q (.ref p) h3) fun y h3 => E y s h3) E) E
theorem j_makeX {C : Addr} {CX : CXT} {k n N mm : Nat} {f : Addr} {fd : FuncData} {ps ks : List Str} {c : Con} {gT : List T → List T → List T} {x : Str} {p pos : Pos} {e : Expr} {es : List Expr} {kws : List Keyword} {ma mk : AM} (M : Mk X.K C f) (F : FnOk X.prog X.w X.K X.mg X.base CX k f fd ps (liftSp X.K N c)) (hr : Room (k + 1) X.A) (hg : Gl X x) (hm : X.mg x = some (.ref C)) (hb : KBt X.K fd ps (n + 1) ks gT) (hx : ∀ σ, PassesAt CX X σ (WE W σ)) (ha : JA X W (e :: es) ma) (hkw : JK X W kws mk) (hmm : ks.length = mm := by rfl)
    (hall : (backToKw pos (keywordEach kws X.env)).all (·.1.isSome) = true := by rfl) (hks : (backToKw pos (keywordEach kws X.env)).filterMap (·.1) = ks := by rfl) (hdb : (x == ("__debug__" : Str)) = false := by decide)
    (he : starEach (e :: es) X.env = (false, eval e X.env) :: starEach es X.env := by rfl) (hpl : ((backTo pos (starEach (e :: es) X.env)).any (·.1) || (backToKw pos (keywordEach kws X.env)).any (·.1.isNone)) = false := by rfl) :
    JE X W (.Call (.Name x p) (e :: es) kws pos) (eMakeX C n mm N gT c ma mk) := by
  obtain ⟨g, gV, hb, hrep⟩ := hb.ex
  exact PE.wk (pe_makeX M F hr hg hm hb hx ha hkw hall hks hdb he hpl) fun σ H Q' ⟨S, h, s, Q, E, mm', rs, lk, hm, pk⟩ =>
  ⟨S, h, s, _, E, mm', rs, lk, hm, fun S1 H1 h1 vs ts f1 m1 r1 q1 => ⟨S1, h1, s, _, E, m1, rs.fut f1, lk.fut f1, q1, fun S2 H2 h2 zs us f2 m2 r2 ⟨l1, l2, q2⟩ => ⟨by rw [r1.length]; exact l1, by rw [r2.length, hmm]; exact l2, fun x dx nx nd ne => by
    have f12 := f1.trans f2
    have m3 : Sim X.K S2 (upd H2 dx (.own x)) h2 := m2.side nd
    have nx' : upd H2 dx (.own x) x = none := by rw [upd_ne (Ne.symm ne)]; exact nx
    have f3 : Fut S2 H2 S2 (upd (upd H2 dx (.own x)) x (.ins C dx [])) := (fut_upd (m2.nS nd)).trans (fut_upd (m3.nS nx'))
    have m4 : Sim X.K S2 (upd (upd H2 dx (.own x)) x (.ins C dx [])) (put h2 x (.ins C [])) := m3.new nx' ⟨dx, [], rfl, .nil⟩
    obtain ⟨l3, q3⟩ := q2 x (m2.free nx)
    refine ⟨S2, _, _, _, _, m4, hrep S2 _ (.ref x :: vs) zs (.ref x :: ts) us (.cons (.ref x) (r1.fut (f2.trans f3))) (r2.fut f3) (by rw [List.length_cons, l1]) (l2.trans hmm.symm), l3, q3, ?_, ?_⟩
    · intro S5 H5 h5 v u f5 m5 r5 ⟨e5, q5⟩
      subst e5
      cases r5
      exact ⟨rfl, pk S5 H5 h5 _ _ (f12.trans (f3.trans f5)) m5 (.ref x) q5⟩
    · intro S5 H5 h5 y cls d f5 m5 r5 q5
      exact lk S5 H5 h5 σ s y cls d (f12.trans (f3.trans f5)) m5 (rs.fut (f12.trans (f3.trans f5))) r5 q5⟩⟩⟩
/-! ### xs[::-1] -/
theorem RepL.reverse {K : PySem.W.Frag} {S : Fz} {H : Hp} : ∀ {v : List V} {t : List T}, RepL K S H v t → RepL K S H v.reverse t.reverse
  | _, _, .nil => .nil
  | _, _, .cons r q => by rw [List.reverse_cons, List.reverse_cons]; exact (RepL.reverse q).append (.cons r .nil)
def eRev (fl : Bool) (m : EM) : EM := fun s h Q E => m s h (fun x h1 => match lsOf h1 x with
  | some ts => mk fl ts.reverse h1 Q
  | none => False) E
theorem j_rev (fl : Bool) {e : Expr} {m : EM} {k : Nat} {p1 p2 p3 pos : Pos} (he : JE X W e m) : JE X W (.Subscript e (.Slice none none (some (.UnaryOp .USub (.Constant (.int 1) k p1) p2)) p3) pos) (eRev fl m) := PE.wk (pe_revL he) fun σ H Q' ⟨S, h, s, Q, E, mm, rs, lk, hm, pk⟩ =>
  ⟨S, h, s, _, E, mm, rs, lk, hm, fun S1 H1 h1 v x f1 m1 r1 q1 => by
    split at q1
    · rename_i ts e
      obtain ⟨a, vs, rfl, ha, r⟩ := lsOf_ok m1 r1 e
      exact ⟨a, vs, rfl, SqL.of ha, mk_ok m1 r.reverse q1 (pk.fut f1)⟩
    · exact q1.elim⟩
/-! ### repr of plain values -/
def reprT : T → Option Str
  | .non => some ("None" : Str)
  | .bl b => some (if b then "True" else "False" : String)
  | .int i => if i.natAbs.log2 < 1920 then some (toString i : String) else none
  | .str x => if (reprText x).length ≤ 1000000 then some (reprText x) else none
  | _ => none
def oRepr : RLT := fun xs h Q => match xs with
  | [x] => match reprT x with
    | some z => Q (.str z) h
    | none => False
  | _ => False
def rRepr : List V → Hp → VK → Prop := fun xs H Q => (xs = [.non] ∧ Q (.str ("None" : Str)) H) ∨ (∃ b : Bool, xs = [.bl b] ∧ Q (.str ((if b then "True" else "False" : String) : Str)) H) ∨ (∃ i : Int, xs = [.int i] ∧ i.natAbs.log2 < 1920 ∧ Q (.str ((toString i : String) : Str)) H) ∨ (∃ x : Str, xs = [.str x] ∧ (reprText x).length ≤ sizeLine ∧ Q (.str (reprText x)) H)
theorem call_repr : CallR X (.builtin "repr") rRepr := by
  intro pins s σ H xs us Q I r h
  rcases h with ⟨rfl, q⟩ | ⟨b, rfl, q⟩ | ⟨i, rfl, hz, q⟩ | ⟨x, rfl, hz, q⟩
  · obtain ⟨u, rfl, e⟩ := vals1 r
    obtain rfl : u = .none := e
    exact PySem.P.repr_of_none ⟨.str _, H, I.tok _, ⟨_, rfl⟩, q⟩
  · obtain ⟨u, rfl, e⟩ := vals1 r
    obtain rfl : u = .bool b := e
    refine PySem.P.repr_of_bool ⟨.str _, H, I.tok _, ⟨_, rfl⟩, ?_⟩
    cases b <;> exact q
  · obtain ⟨u, rfl, t, rfl⟩ := vals1 r
    exact PySem.P.repr_of_int hz ⟨.str _, H, I.tok _, ⟨_, rfl⟩, q⟩
  · obtain ⟨u, rfl, t, rfl⟩ := vals1 r
    exact PySem.P.repr_of_str ⟨.str _, H, I.tok _, ⟨_, rfl⟩, q⟩ hz
theorem c_repr {K : PySem.W.Frag} : CP K rRepr oRepr := fun S H h vs xs Q Q' m r q pk => by
  unfold oRepr at q
  split at q
  · cases r with
    | cons r1 rn =>
      cases rn
      split at q
      · rename_i z e
        cases r1 <;> simp only [reprT] at e <;> first
          | (cases e; done)
          | skip
        · cases e; exact .inl ⟨rfl, pk S H h _ _ Fut.refl m (.str _) q⟩
        · cases e; exact .inr (.inl ⟨_, rfl, pk S H h _ _ Fut.refl m (.str _) q⟩)
        · split at e
          · cases e; exact .inr (.inr (.inl ⟨_, rfl, by assumption, pk S H h _ _ Fut.refl m (.str _) q⟩))
          · cases e
        · split at e
          · cases e; exact .inr (.inr (.inr ⟨_, rfl, lim_le (by assumption), pk S H h _ _ Fut.refl m (.str _) q⟩))
          · cases e
      · exact q.elim
  · exact q.elim
/-! ### constants -/
def PureTo (m : EM) (t : T) : Prop := ∀ (s : Sl) (h : Hq) (Q : TK) (E : EX), Q t h → m s h Q E
def PureA (m : AM) (ts : List T) : Prop := ∀ (s : Sl) (h : Hq) (Q : List T → Hq → Prop) (E : EX), Q ts h → m s h Q E
theorem pu_c {t : T} : PureTo (eC t) t := fun _ _ _ _ q => q
theorem pa_n : PureA aNil [] := fun _ _ _ _ q => q
theorem pa_c {m : EM} {r : AM} {t : T} {ts : List T} (a : PureTo m t) (b : PureA r ts) : PureA (aCons m r) (t :: ts) := fun s h Q E q => a s h _ E (b s h _ E q)
theorem pu_tup {r : AM} {ts : List T} (a : PureA r ts) (l : ts.length ≤ 1000000) : PureTo (eTup r) (.tup ts) := fun s h Q E q => a s h _ E ⟨l, q⟩
theorem pu_lst {r : AM} {ts : List T} (a : PureA r ts) (l : ts.length ≤ 1000000) : PureTo (eLst true r) (.lst ts) := fun s h Q E q => a s h _ E ⟨l, by rw [mk_true]; exact q⟩
theorem pu_neg {m : EM} {i : Int} (a : PureTo m (.int i)) : PureTo (eNeg m) (.int (-i)) := fun s h Q E q => a s h _ E q
theorem pu_sub {m n : EM} {i j : Int} (a : PureTo m (.int i)) (b : PureTo n (.int j)) : PureTo (eOp oSub m n) (.int (i - j)) := fun s h Q E q => a s h _ E (b s h _ E q)
theorem pu_add {fl : Bool} {m n : EM} {i j : Int} (a : PureTo m (.int i)) (b : PureTo n (.int j)) : PureTo (eOp (oAdd fl) m n) (.int (i + j)) := fun s h Q E q => a s h _ E (b s h _ E q)
theorem pu_mul {fl : Bool} {m n : EM} {i j : Int} (a : PureTo m (.int i)) (b : PureTo n (.int j)) (c : MulOk i j) : PureTo (eOp (oMul fl) m n) (.int (i * j)) := fun s h Q E q => a s h _ E (b s h _ E ⟨c, q⟩)
theorem pu_pow {m n : EM} {i j : Int} (a : PureTo m (.int i)) (b : PureTo n (.int j)) (c : 0 ≤ j ∧ j ≤ 1000 ∧ i.natAbs < 2 ^ 64) : PureTo (eOp oPow m n) (.int (i ^ j.toNat)) := fun s h Q E q => a s h _ E (b s h _ E ⟨c, q⟩)
theorem j_pure {e : Expr} {m : EM} {t : T} (j : JE X W e m) (p : PureTo m t) : JE X W e (eC t) := PE.wk j fun σ H Q' ⟨S, h, s, Q, E, mm, rs, lk, hm, pk⟩ => ⟨S, h, s, Q, E, mm, rs, lk, p s h Q E hm, pk⟩
end
theorem oMax2 {i j : Int} {h : Hq} {Q : TK} : oMax [.int i, .int j] h Q = Q (.int (if j > i then j else i)) h := rfl
theorem oMin2 {i j : Int} {h : Hq} {Q : TK} : oMin [.int i, .int j] h Q = Q (.int (if j < i then j else i)) h := rfl
theorem oMax1 {ts : List T} {ns : List Int} {h : Hq} {Q : TK} (e : intsOf ts = some ns) : oMax [.lst ts] h Q = (0 < ns.length ∧ ∀ m, m ∈ ns → (∀ y, y ∈ ns → y ≤ m) → Q (.int m) h) := by
  unfold oMax
  simp only [intsIn, lsOf, Option.bind_some, e]
theorem oMin1 {ts : List T} {ns : List Int} {h : Hq} {Q : TK} (e : intsOf ts = some ns) : oMin [.lst ts] h Q = (0 < ns.length ∧ ∀ m, m ∈ ns → (∀ y, y ∈ ns → m ≤ y) → Q (.int m) h) := by
  unfold oMin
  simp only [intsIn, lsOf, Option.bind_some, e]
theorem oAddI' {fl : Bool} {i j : Int} {h : Hq} {Q : TK} : oAdd fl (.int i) (.int j) h Q = Q (.int (i + j)) h := rfl
theorem oAddL {fl : Bool} {xs ys : List T} {h : Hq} {Q : TK} : oAdd fl (.lst xs) (.lst ys) h Q = (xs.length + ys.length ≤ 1000000 ∧ mk fl (xs ++ ys) h Q) := rfl
theorem oMulI' {fl : Bool} {i j : Int} {h : Hq} {Q : TK} : oMul fl (.int i) (.int j) h Q = (MulOk i j ∧ Q (.int (i * j)) h) := rfl
end TL

/-! TLV: dicts, keys ints and texts; a dict is always followed. -/
namespace TL
open PySem L2
def keyT : T → Option Key
  | .int i => some (.inl i)
  | .str x => some (.inr x)
  | _ => none
section
variable {κ : Type} [DecidableEq κ]
def valT (gs : List (κ × T)) (k : κ) : Option T := (gs.find? fun kv => decide (kv.1 = k)).map (·.2)
def putD (gs : List (κ × T)) (k : κ) (v : T) : List (κ × T) := if (gs.any fun kv => decide (kv.1 = k)) = true then gs.map (fun kv => if kv.1 = k then (kv.1, v) else kv) else gs ++ [(k, v)]
variable {K : PySem.W.Frag} {S : Fz} {H : Hp}
theorem RepD.cases {kvs : List (κ × V)} {gs : List (κ × T)} (r : RepD K S H kvs gs) : (kvs = [] ∧ gs = []) ∨ ∃ k v t kvs' gs', kvs = (k, v) :: kvs' ∧ gs = (k, t) :: gs' ∧ Rep K S H v t ∧ RepD K S H kvs' gs' := by
  obtain ⟨h1, h2⟩ := r
  cases kvs with
  | nil =>
    cases gs with
    | nil => exact .inl ⟨rfl, rfl⟩
    | cons g gs => simp at h1
  | cons kv kvs =>
    cases gs with
    | nil => simp at h1
    | cons g gs =>
      obtain ⟨k, v⟩ := kv
      obtain ⟨k', t⟩ := g
      simp only [List.map_cons, List.cons.injEq] at h1
      obtain ⟨rfl, h1⟩ := h1
      rw [List.map_cons, List.map_cons] at h2
      cases h2 with
      | cons r q => exact .inr ⟨k, v, t, kvs, gs, rfl, rfl, r, h1, q⟩
theorem RepD.nil : RepD K S H ([] : List (κ × V)) [] := ⟨rfl, .nil⟩
theorem RepD.cons {k : κ} {v : V} {t : T} {kvs : List (κ × V)} {gs : List (κ × T)} (r : Rep K S H v t) (q : RepD K S H kvs gs) : RepD K S H ((k, v) :: kvs) ((k, t) :: gs) := ⟨by rw [List.map_cons, List.map_cons, q.1], .cons r q.2⟩
theorem RepD.val {k : κ} : ∀ {kvs : List (κ × V)} {gs : List (κ × T)}, RepD K S H kvs gs → (∀ t, valT gs k = some t → ∃ v, valV kvs k = some v ∧ Rep K S H v t) ∧ (valT gs k = none → valV kvs k = none) := by
  intro kvs
  induction kvs with
  | nil =>
    intro gs r
    rcases r.cases with ⟨_, rfl⟩ | ⟨_, _, _, _, _, z, _⟩
    · exact ⟨(fun t e => by cases e), fun _ => rfl⟩
    · cases z
  | cons kv kvs ih =>
    intro gs r
    rcases r.cases with ⟨z, _⟩ | ⟨k', v, t, kvs', gs', z, rfl, r1, r2⟩
    · cases z
    · cases z
      by_cases c : k' = k
      · subst c
        refine ⟨fun u e => ⟨v, valV_pos (p := (k', v)) rfl, ?_⟩, fun e => ?_⟩
        · simp [valT, List.find?_cons] at e
          subst e; exact r1
        · simp [valT, List.find?_cons] at e
      · obtain ⟨i1, i2⟩ := ih r2
        have e1 : valT ((k', t) :: gs') k = valT gs' k := by simp [valT, List.find?_cons, c]
        have e2 : valV ((k', v) :: kvs) k = valV kvs k := valV_neg (p := (k', v)) c
        rw [e1, e2]
        exact ⟨i1, i2⟩
theorem RepD.any {k : κ} {kvs : List (κ × V)} {gs : List (κ × T)} (r : RepD K S H kvs gs) : (kvs.any fun kv => decide (kv.1 = k)) = (gs.any fun kv => decide (kv.1 = k)) := by
  have e1 : (kvs.any fun kv => decide (kv.1 = k)) = (kvs.map (·.1)).any fun z => decide (z = k) := by rw [List.any_map]; rfl
  have e2 : (gs.any fun kv => decide (kv.1 = k)) = (gs.map (·.1)).any fun z => decide (z = k) := by rw [List.any_map]; rfl
  rw [e1, e2, r.1]
theorem RepD.app {kvs ls : List (κ × V)} {gs ms : List (κ × T)} (r : RepD K S H kvs gs) (q : RepD K S H ls ms) : RepD K S H (kvs ++ ls) (gs ++ ms) := ⟨by rw [List.map_append, List.map_append, r.1, q.1], by rw [List.map_append, List.map_append]; exact r.2.append q.2⟩
theorem RepD.put {k : κ} {v : V} {t : T} {kvs : List (κ × V)} {gs : List (κ × T)} (r : RepD K S H kvs gs) (q : Rep K S H v t) : RepD K S H (putK kvs k v) (putD gs k t) := by
  unfold putK putD
  rw [r.any]
  split
  · rename_i hany
    clear hany
    induction kvs generalizing gs with
    | nil =>
      rcases r.cases with ⟨_, rfl⟩ | ⟨_, _, _, _, _, z, _⟩
      · exact .nil
      · cases z
    | cons kv kvs ih =>
      rcases r.cases with ⟨z, _⟩ | ⟨k', v', t', kvs', gs', z, rfl, r1, r2⟩
      · cases z
      · cases z
        rw [List.map_cons, List.map_cons]
        by_cases c : k' = k
        · rw [if_pos c, if_pos c]; exact .cons q (ih r2)
        · rw [if_neg c, if_neg c]; exact .cons r1 (ih r2)
  · exact r.app (.cons q .nil)
theorem RepD.length {kvs : List (κ × V)} {gs : List (κ × T)} (r : RepD K S H kvs gs) : kvs.length = gs.length := by
  have := congrArg List.length r.1
  simpa using this
theorem RepD.fu {S1 : Fz} {H1 : Hp} {kvs : List (κ × V)} {gs : List (κ × T)} (f : Fu S H S1 H1) (r : RepD K S H kvs gs) : RepD K S1 H1 kvs gs := ⟨r.1, r.2.fu f⟩
theorem RepD.fut {S1 : Fz} {H1 : Hp} {kvs : List (κ × V)} {gs : List (κ × T)} (f : Fut S H S1 H1) (r : RepD K S H kvs gs) : RepD K S1 H1 kvs gs := r.fu f.fu
end
section
variable {X : Cx} {W : WX} {K : PySem.W.Frag} {S : Fz} {H : Hp} {h : Hq}
theorem ref_dK (m : Sim K S H h) {p : Addr} {gs : List (Key × T)} (e : h p = some (.dK gs)) : ∃ kvs, H p = some (.dK kvs) ∧ RepD K S H kvs gs := by
  obtain ⟨u, e1, kvs, e2, r⟩ := m.ob p _ e
  subst e2
  exact ⟨kvs, e1, r⟩
theorem keyT_ok {v : V} {t : T} {k : Key} (r : Rep K S H v t) (e : keyT t = some k) : v = kV k := by
  cases r <;> simp only [keyT] at e <;> first
    | (cases e; done)
    | (cases e; rfl)
/-! ### {} -/
def eDNew : EM := fun _ h Q _ => ∀ p, h p = none → Q (.ref p) (put h p (.dK []))
theorem j_dnew {pos : Pos} : JE X W (.Dict [] [] pos) eDNew := PE.wk pe_dnewK fun σ H Q' ⟨S, h, s, Q, E, m, rs, lk, hm, pk⟩ p np =>
  pk S _ _ _ _ (fut_upd (m.nS np)) (m.new (o := .dK []) np ⟨[], rfl, .nil⟩) (.ref p) (hm p (m.free np))
/-! ### k in d, d[k] -/
def eDIn (neg : Bool) (a b : EM) : EM := fun s h Q E => a s h (fun y h1 => b s h1 (fun x h2 => match x with
  | .ref p => match h2 p with
    | some (.dK gs) => match keyT y with
      | some k => Q (.bl (xor neg (valT gs k).isSome)) h2
      | none => False
    | _ => False
  | _ => False) E) E
theorem din_ok (m : Sim K S H h) {p : Addr} {gs : List (Key × T)} {k : Key} (e : h p = some (.dK gs)) : ∃ o, DGet H p (kV k) o ∧ o.isSome = (valT gs k).isSome := by
  obtain ⟨kvs, e1, r⟩ := ref_dK m e
  refine ⟨valV kvs k, DGet.k e1, ?_⟩
  obtain ⟨r1, r2⟩ := r.val (k := k)
  cases z : valT gs k with
  | none => rw [r2 z]; rfl
  | some t => obtain ⟨v, ev, _⟩ := r1 t z; rw [ev]; rfl
theorem lift_din {a b : EM} : ∀ σ H Q, liftE K W (eDIn false a b) σ H Q → tDIn (liftE K W a) (liftE K W b) σ H Q := fun σ H Q' ⟨S, h, s, Q, E, m, rs, lk, hm, pk⟩ =>
  ⟨S, h, s, _, E, m, rs, lk, hm, fun S1 H1 h1 v y f1 m1 r1 q1 => ⟨S1, h1, s, _, E, m1, rs.fut f1, lk.fut f1, q1, fun S2 H2 h2 w x f2 m2 r2 q2 => by
    split at q2
    · split at q2
      · split at q2
        · rename_i p _ gs e _ k ek
          cases r2
          rw [keyT_ok (r1.fut f2) ek]
          obtain ⟨o, d, eo⟩ := din_ok m2 (k := k) e
          refine ⟨p, o, rfl, d, pk S2 H2 h2 _ _ (f1.trans f2) m2 (.bl _) ?_⟩
          rw [eo]
          simpa using q2
        · exact q2.elim
      · exact q2.elim
    · exact q2.elim⟩⟩
theorem lift_dnotin {a b : EM} : ∀ σ H Q, liftE K W (eDIn true a b) σ H Q → tDNotIn (liftE K W a) (liftE K W b) σ H Q := fun σ H Q' ⟨S, h, s, Q, E, m, rs, lk, hm, pk⟩ =>
  ⟨S, h, s, _, E, m, rs, lk, hm, fun S1 H1 h1 v y f1 m1 r1 q1 => ⟨S1, h1, s, _, E, m1, rs.fut f1, lk.fut f1, q1, fun S2 H2 h2 w x f2 m2 r2 q2 => by
    split at q2
    · split at q2
      · split at q2
        · rename_i p _ gs e _ k ek
          cases r2
          rw [keyT_ok (r1.fut f2) ek]
          obtain ⟨o, d, eo⟩ := din_ok m2 (k := k) e
          refine ⟨p, o, rfl, d, pk S2 H2 h2 _ _ (f1.trans f2) m2 (.bl _) ?_⟩
          rw [eo]
          simpa using q2
        · exact q2.elim
      · exact q2.elim
    · exact q2.elim⟩⟩
theorem j_din {i o : Expr} {a b : EM} {pos : Pos} (hu : X.A.units + 1 < cLine) (hi : JE X W i a) (ho : JE X W o b) (hm : behindInMarks .In o = false := by rfl) : JE X W (.Compare i [.In] [o] pos) (eDIn false a b) := PE.wk (pe_cmp (pc_din hu hi ho) hm) lift_din
theorem j_dnotin {i o : Expr} {a b : EM} {pos : Pos} (hu : X.A.units + 1 < cLine) (hi : JE X W i a) (ho : JE X W o b) (hm : behindInMarks .NotIn o = false := by rfl) : JE X W (.Compare i [.NotIn] [o] pos) (eDIn true a b) := PE.wk (pe_cmp (pc_dnotin hu hi ho) hm) lift_dnotin
theorem tB_test {t : TE} : ∀ σ H Q, tTest t σ H Q → tB t σ H Q := fun σ H Q q => q
theorem jt_din {i o : Expr} {a b : EM} {pos : Pos} (hu : X.A.units + 1 < cLine) (hi : JE X W i a) (ho : JE X W o b) (hm : behindInMarks .In o = false := by rfl) : JT X W (.Compare i [.In] [o] pos) (tOf (eDIn false a b)) := PT.wk (pt_cmp (pc_din hu hi ho) hm) fun σ H Q q => tB_test σ H Q (tTest_mono lift_din σ H Q (lift_test σ H Q q))
theorem jt_dnotin {i o : Expr} {a b : EM} {pos : Pos} (hu : X.A.units + 1 < cLine) (hi : JE X W i a) (ho : JE X W o b) (hm : behindInMarks .NotIn o = false := by rfl) : JT X W (.Compare i [.NotIn] [o] pos) (tOf (eDIn true a b)) := PT.wk (pt_cmp (pc_dnotin hu hi ho) hm) fun σ H Q q => tB_test σ H Q (tTest_mono lift_dnotin σ H Q (lift_test σ H Q q))
def eDGet (a b : EM) : EM := fun s h Q E => a s h (fun x h1 => b s h1 (fun y h2 => match x with
  | .ref p => match h2 p with
    | some (.dK gs) => match keyT y with
      | some k => match valT gs k with
        | some t => Q t h2
        | none => False
      | none => False
    | _ => False
  | _ => False) E) E
theorem j_dget {o i : Expr} {a b : EM} {pos : Pos} (hu : X.A.units + 1 < cLine) (hs : NoSl i) (ho : JE X W o a) (hi : JE X W i b) : JE X W (.Subscript o i pos) (eDGet a b) := PE.wk (pe_dget hu ho hi hs) fun σ H Q' ⟨S, h, s, Q, E, m, rs, lk, hm, pk⟩ =>
  ⟨S, h, s, _, E, m, rs, lk, hm, fun S1 H1 h1 v x f1 m1 r1 q1 => ⟨S1, h1, s, _, E, m1, rs.fut f1, lk.fut f1, q1, fun S2 H2 h2 w y f2 m2 r2 q2 => by
    split at q2
    · split at q2
      · split at q2
        · split at q2
          · rename_i p _ gs e _ k ek _ t et
            cases r1
            rw [keyT_ok r2 ek]
            obtain ⟨kvs, e1, r⟩ := ref_dK m2 e
            obtain ⟨z, ez, rz⟩ := (r.val (k := k)).1 t et
            exact ⟨p, z, rfl, by rw [← ez]; exact DGet.k e1, pk S2 H2 h2 _ _ (f1.trans f2) m2 rz q2⟩
          · exact q2.elim
        · exact q2.elim
      · exact q2.elim
    · exact q2.elim⟩⟩
/-! ### {k: v for ..} -/
def DcK (ts : List T) (stay : Hq → Prop) (g : T → Sl → Option Sl) (tt : TM) (ek ev : EM) (s : Sl) (h1 : Hq) (Q : TK) : Prop := ∃ I : Nat → List (Key × T) → Hq → Prop, I 0 [] h1 ∧ ∀ i acc h, i ≤ ts.length → I i acc h → stay h ∧ match ts[i]? with
  | none => ∀ p, h p = none → Q (.ref p) (put h p (.dK acc))
  | some t => acc.length < lim ∧ match g t s with
    | some s2 => tt s2 h (fun b h3 => if b = true then ek s2 h3 (fun y h4 => ev s2 h4 (fun z h5 => ∃ k, keyT y = some k ∧ I (i + 1) (putD acc k z) h5) E0) E0 else I (i + 1) acc h3) E0
    | none => False
def eDc (src : IM) (g : T → Sl → Option Sl) (tt : TM) (ek ev : EM) : EM := fun s h Q E => src s h (fun ts stay h1 => DcK ts stay g tt ek ev s h1 Q) E
theorem lift_dc {src : IM} {g : T → Sl → Option Sl} {g' : TG} {tt : TM} {ek ev : EM} {own : List Nat} (ct : CTg K g' g own) : ∀ σ H Q, liftE K W (eDc src g tt ek ev) σ H Q → tDc (liftI K W src) g' (liftT K W0 tt) (liftE K W0 ek) (liftE K W0 ev) own σ H Q := fun σ H Q' ⟨S, h, s, Q, E, m, rs, lk, hm, pk⟩ => by
  refine ⟨S, h, s, _, E, m, rs, lk, hm, fun S1 H1 h1 J ts stay f1 m1 it q => ?_⟩
  obtain ⟨I, i0, step⟩ := q
  intro D nD
  have nS1 : ¬ S1.has D := m1.nS nD
  let Wd : Nat → Hp → Prop := fun i H2 => ∃ S2 h2 vs acc, Fut S1 H1 S2 H2 ∧ Sim K S2 H2 h2 ∧ H2 D = some (.dK vs) ∧ RepD K S2 H2 vs acc ∧ ¬ S2.has D ∧ h2 D = none ∧ I i acc h2
  refine ⟨fun i n H2 => n = ts.length - i ∧ i ≤ ts.length ∧ Wd i H2, ⟨ts.length, by simp, Nat.zero_le _, S1, h1, [], [], fut_upd nS1, m1.side nD, upd_same, .nil, nS1, m1.free nD, i0⟩, ?_⟩
  rintro i n H2 ⟨en, hi, S2, h2, vs, acc, f2, m2, hD, rD, nS2, nh2, i2⟩
  obtain ⟨st, q2⟩ := step i acc h2 hi i2
  have m2' : Sim K (TL.prot S2 D) H2 h2 := m2.prot nh2 (by rw [hD]; exact fun z => nomatch z) fun z => nS2 (.inl z)
  obtain ⟨go, stop⟩ := it (TL.prot S2 D) H2 h2 ⟨f2.sub, fun a z => f2.kp a (.inl z)⟩ m2' st
  cases e : ts[i]? with
  | none =>
    rw [e] at q2
    have hl : i = ts.length := Nat.le_antisymm hi (List.getElem?_eq_none_iff.mp e)
    refine .inl ⟨by rw [hl]; exact stop, ?_⟩
    exact pk S2 H2 _ _ _ (f1.trans f2) (m2.follow (o := .dK acc) nh2 nS2 hD ⟨vs, rfl, rD⟩) (.ref D) (q2 D nh2)
  | some t =>
    rw [e] at q2
    obtain ⟨la, q2⟩ := q2
    have hl : i < ts.length := (List.getElem?_eq_some_iff.mp e).1
    obtain ⟨g1, g2⟩ := go i t e
    refine .inr ⟨g1, Wd (i + 1), fun H' w => ⟨ts.length - (i + 1), by omega, rfl, hl, w⟩, fun x H3 y => ?_⟩
    obtain ⟨S3, f3, m3, r3⟩ := g2 x H3 y
    have u2 : Fu S H (TL.prot S2 D) H2 := ⟨fun a z => f2.sub a (f1.sub a z), fun a z => (f1.trans f2).kp a (.inl z)⟩
    have rs3 : RepS K S3 H3 σ s := rs.fu (u2.trans f3.fu)
    split at q2
    · rename_i s2 eg
      refine ct S3 H3 h2 x t σ s s2 _ m3 rs3 r3 eg fun σ2 r2 ew => ⟨ew, ?_⟩
      refine ⟨S3, h2, s2, _, E0, m3, r2, lk0, q2, fun S4 H4 h4 b f4 m4 q4 => ?_⟩
      have back : ∀ {S5 : Fz} {H5 : Hp} {h5 : Hq} {ws : List (Key × V)} {acc' : List (Key × T)}, Fut (TL.prot S2 D) H2 S5 H5 → Sim K S5 H5 h5 → RepD K S5 H5 ws acc' → I (i + 1) acc' h5 → Wd (i + 1) (upd H5 D (.dK ws)) := fun {S5 H5 h5 ws acc'} f5 m5 r5 q5 => by
        have pD : S5.p D := by rw [f5.pe]; exact .inr rfl
        have nD5 : ¬ S5.s D := fun z => m5.dj D z pD
        have n6 : ¬ (TL.unp S2 S5).has D := fun z => z.elim nD5 fun z => nS2 (.inr z)
        refine ⟨TL.unp S2 S5, h5, ws, acc', ⟨fun a z => f5.sub a (f2.sub a z), fun a z => ?_, f2.pe⟩, (m5.unp f5.pe).side' (m5.fr D (.inr pD)) n6, upd_same, ?_, n6, m5.fr D (.inr pD), q5⟩
        · rw [upd_ne (neS z nS1), f5.kp a (z.elim (fun w => .inl (f2.sub a w)) fun w => .inr (.inl (by rw [f2.pe]; exact w))), f2.kp a z]
        · exact r5.fu (S := S5) (S1 := TL.unp S2 S5) ⟨fun a z => z, fun a z => upd_ne (show a ≠ D from fun w => nD5 (by rw [← w]; exact z))⟩
      have old : ∀ {S5 : Fz} {H5 : Hp}, Fut (TL.prot S2 D) H2 S5 H5 → H5 D = some (.dK vs) ∧ RepD K S5 H5 vs acc := fun {S5 H5} f5 => ⟨(f5.kp D (.inr (.inr rfl))).trans hD, RepD.fu (S := S2) ⟨f5.sub, fun a z => f5.kp a (.inl z)⟩ rD⟩
      cases b with
      | true =>
        rw [if_pos rfl] at q4
        refine iteT ?_
        refine ⟨S4, h4, s2, _, E0, m4, r2.fut f4, lk0, q4, fun S5 H5 h5 v y f5 m5 r5 q5 => ?_⟩
        refine ⟨S5, h5, s2, _, E0, m5, (r2.fut f4).fut f5, lk0, q5, fun S6 H6 h6 w z f6 m6 r6 ⟨k, ek, q6⟩ => ?_⟩
        have f26 := ((f3.trans f4).trans f5).trans f6
        obtain ⟨hD6, rD6⟩ := old f26
        exact ⟨vs, k, keyT_ok r5 ek, hD6, lim_lt (by rw [rD.length]; exact Nat.le_of_lt la), back f26 m6 (rD6.put r6) q6⟩
      | false =>
        rw [if_neg Bool.false_ne_true] at q4
        refine iteF ?_
        have f24 := f3.trans f4
        obtain ⟨hD4, rD4⟩ := old f24
        have w := back f24 m4 rD4 q4
        have eu : upd H4 D (.dK vs) = H4 := by
          funext a
          unfold upd
          split
          · rename_i z; rw [z, hD4]
          · rfl
        rw [eu] at w
        exact w
    · exact q2.elim
theorem j_dc {kx vx tg iter : Expr} {ifs : List Expr} {scope : Scope} {own : List (Str × Nat)} {pos : Pos} {src : IM} {g : T → Sl → Option Sl} {g' : TG} {tt : TM} {ek ev : EM} (hc : X.calm = true) (hN : X.N.Nodup) (ct : CTg X.K g' g (own.map (·.2))) (hi : JI X W tg iter src) (ok : BlkOk X.N X.env.scope scope own)
    (hg : ∀ (s : Shared) (H : Hp) (C : Addr) (cl : List (Str × Addr)) (fp : List Addr), PG (X.blk s H scope (compEnvC scope cl C X.env) fp) tg g')
    (ht : ∀ (s : Shared) (H : Hp) (C : Addr) (cl : List (Str × Addr)) (fp : List Addr), PTs (X.blk s H scope (compEnvC scope cl C X.env) fp) ifs (liftT X.K W0 tt))
    (hk : ∀ (s : Shared) (H : Hp) (C : Addr) (cl : List (Str × Addr)) (fp : List Addr), JE (X.blk s H scope (compEnvC scope cl C X.env) fp) W0 kx ek)
    (he : ∀ (s : Shared) (H : Hp) (C : Addr) (cl : List (Str × Addr)) (fp : List Addr), JE (X.blk s H scope (compEnvC scope cl C X.env) fp) W0 vx ev) (hs : ∀ x, foldedSetIterable iter X.env x = pure x := by intro _; rfl) :
    JE X W (.DictComp kx vx [⟨tg, iter, ifs, 0⟩] scope pos) (eDc src g tt ek ev) := PE.wk (pe_dc (tk := liftE X.K W0 ek) (tv := liftE X.K W0 ev) hc hN hi ok hg ht hk he hs) (lift_dc ct)
/-! ### y = {..} -/
theorem swD {kx vx : Expr} {gs : List Comprehension} {scope : Scope} {pos py : Pos} {y : Str} {l : Nat} {env : Env} (hk : env.scope.kind = .function) (hy : env.scope.names.lookup y = some .local) (hl : (py.line == pos.line) = true) (ha : (scope.names.any fun (n, k) => n == y && (k == .local || k == .cell)) = false) :
    swapsWith (.DictComp kx vx gs scope pos) (some (.Name y py)) l env = pure true := by
  have hb : env.blockKind = .function := by unfold Env.blockKind; rw [hk]; rfl
  have ky : env.kindOf y = some .local := hy
  unfold swapsWith; simp only [hb, ky, ha, Expr.pos, hl]; rfl
theorem ps_setDc {i : Nat} {y : Str} {py pos spos : Pos} {kx vx tg iter : Expr} {ifs : List Expr} {scope : Scope} {own : List (Str × Nat)} {wi : TI} {g : TG} {tt : TT} {tk tv : TE} (hc : X.calm = true) (hN : X.N.Nodup) (hy : X.N[i]? = some y) (hyl : X.env.scope.names.lookup y = some .local)
    (hsw : swapsWith (.DictComp kx vx [⟨tg, iter, ifs, 0⟩] scope pos) (some (.Name y py)) spos.line X.env = pure true) (hi : PI X tg iter wi) (ok : BlkOk X.N X.env.scope scope own)
    (hg : ∀ (s : Shared) (H : Hp) (C : Addr) (cl : List (Str × Addr)) (fp : List Addr), PG (X.blk s H scope (compEnvC scope cl C X.env) fp) tg g)
    (ht : ∀ (s : Shared) (H : Hp) (C : Addr) (cl : List (Str × Addr)) (fp : List Addr), PTs (X.blk s H scope (compEnvC scope cl C X.env) fp) ifs tt)
    (hk : ∀ (s : Shared) (H : Hp) (C : Addr) (cl : List (Str × Addr)) (fp : List Addr), PE (X.blk s H scope (compEnvC scope cl C X.env) fp) kx tk)
    (he : ∀ (s : Shared) (H : Hp) (C : Addr) (cl : List (Str × Addr)) (fp : List Addr), PE (X.blk s H scope (compEnvC scope cl C X.env) fp) vx tv) (hs : ∀ x, foldedSetIterable iter X.env x = pure x) :
    PS X (.Assign [.Name y py] (.DictComp kx vx [⟨tg, iter, ifs, 0⟩] scope pos) spos) (tAsg (tDc wi g tt tk tv (own.map (·.2))) (gName i)) := ⟨fun pins s σ H D I h => by
  rw [exec_Assign_Name_used _ _ _ _ hsw]
  have h0 : tDc wi g tt tk tv (own.map (·.2)) σ H (fun x H1 => gName i x σ H1 D.nx) := h
  refine wpAny_bind (wpAny_standAt (wpAny_bind ?_))
  show wpAny _ X.A (do let _ ← comprehension (.DictComp kx vx [⟨tg, iter, ifs, 0⟩] scope pos) scope X.env (firstIterPos [⟨tg, iter, ifs, 0⟩] pos) newDict false (eval iter X.env) (some (assign (.Name y py) X.env))) _ _ s
  refine wpAny_bind (thn (dc_core (Qf := fun _ s' => SP X pins D .next s') hc hN I hi ok hg ht hk he hs h0 fun L C s1 m1 H1 I1 q hn f => ?_) fun _ _ z => wpAny_pure (wpAny_pure z))
  show wpAny _ _ (assign (.Name y py) X.env (.ref L)) _ _ _
  obtain ⟨e0, e1, e2, e3, e4, e5⟩ := f
  refine wpAny_assign_Name (store_ok2 (v := V.ref L) I1 hN hy (.inl hyl) rfl (fun s2 I2 ⟨c, sb, hc'⟩ => ?_) (.inr hyl))
  have ne : C ≠ c := hc'.elim (fun z => by rw [z]; exact e1) fun z w => e4 y c z w.symm
  exact ⟨m1, hn.sameBut sb ne, fun h3 sb3 => ⟨_, H1, I2.turned (t' := s2.toks) (fun b o hb e => (sb3.2 b hb).trans e) e0 e1 e3 e4 e5, q⟩⟩⟩
theorem js_setDc {i : Nat} {y : Str} {py pos spos : Pos} {kx vx tg iter : Expr} {ifs : List Expr} {scope : Scope} {own : List (Str × Nat)} {src : IM} {g : T → Sl → Option Sl} {g' : TG} {tt : TM} {ek ev : EM} (hc : X.calm = true) (hN : X.N.Nodup) (hy : X.N[i]? = some y) (hyl : X.env.scope.names.lookup y = some .local)
    (hsw : swapsWith (.DictComp kx vx [⟨tg, iter, ifs, 0⟩] scope pos) (some (.Name y py)) spos.line X.env = pure true) (ct : CTg X.K g' g (own.map (·.2))) (hi : JI X W tg iter src) (ok : BlkOk X.N X.env.scope scope own)
    (hg : ∀ (s : Shared) (H : Hp) (C : Addr) (cl : List (Str × Addr)) (fp : List Addr), PG (X.blk s H scope (compEnvC scope cl C X.env) fp) tg g')
    (ht : ∀ (s : Shared) (H : Hp) (C : Addr) (cl : List (Str × Addr)) (fp : List Addr), PTs (X.blk s H scope (compEnvC scope cl C X.env) fp) ifs (liftT X.K W0 tt))
    (hk : ∀ (s : Shared) (H : Hp) (C : Addr) (cl : List (Str × Addr)) (fp : List Addr), JE (X.blk s H scope (compEnvC scope cl C X.env) fp) W0 kx ek)
    (he : ∀ (s : Shared) (H : Hp) (C : Addr) (cl : List (Str × Addr)) (fp : List Addr), JE (X.blk s H scope (compEnvC scope cl C X.env) fp) W0 vx ev) (hs : ∀ x, foldedSetIterable iter X.env x = pure x := by intro _; rfl) :
    JS X W (.Assign [.Name y py] (.DictComp kx vx [⟨tg, iter, ifs, 0⟩] scope pos) spos) (sAsg (eDc src g tt ek ev) (gN i)) := PS.wk (ps_setDc (tk := liftE X.K W0 ek) (tv := liftE X.K W0 ev) hc hN hy hyl hsw hi ok hg ht hk he hs) fun D' σ H ⟨S, h, s, D, m, rs, lk, hm⟩ =>
  lift_dc ct σ H _ ⟨S, h, s, _, D.ex, m, rs, lk.ex, hm, fun S1 H1 h1 v x f1 m1 r1 q1 => lk.nx S1 H1 h1 _ _ f1 m1 ((rs.fut f1).set r1 i) q1⟩
/-! ### d[k] = v -/
def sDPutT (mo mi mv : EM) : SM := fun D s h => mv s h (fun v h1 => mo s h1 (fun x h2 => mi s h2 (fun y h3 => match x with
  | .ref p => match h3 p with
    | some (.dK gs) => gs.length < lim ∧ match keyT y with
      | some k => D.nx s (put h3 p (.dK (putD gs k v)))
      | none => False
    | _ => False
  | _ => False) D.ex) D.ex) D.ex
end
theorem view_bl {h : Hq} {b : Bool} : view h (.bl b) = .bl b := rfl
theorem dep_bl {b : Bool} : depth? (.bl b) = true := rfl
theorem eqT_tt : eqT (.bl true) (.bl true) = true := rfl
theorem eqT_ff : eqT (.bl false) (.bl false) = true := rfl
theorem eqT_tf : eqT (.bl true) (.bl false) = false := rfl
theorem eqT_ft : eqT (.bl false) (.bl true) = false := rfl
end TL

/-! TLU: operators of own classes. -/
namespace TL
open PySem L2
section
variable {X : Cx} {W : WX} {K : PySem.W.Frag} {C : Addr}
theorem instAt {pins : List (Addr × Obj)} {σ : L2.St} {H : Hp} {s : Shared} {a dx : Addr} {fs : List (Str × V)} (I : Inv X pins σ H s) (e : H a = some (.ins C dx fs)) : ∃ od, PySem.W.InstAt s.heap a (PySem.W.instObj C dx) C (some od) := by
  obtain ⟨mA, O, _⟩ := ins_get I.hok e
  obtain ⟨od, J, _⟩ := O.look
  exact ⟨od, J⟩
theorem noneAt {P : Program} {w : World} (hP : X.prog = P) (hw : X.w = w) (σ : L2.St) : PassesAt (L2.CX P w) X σ (fun _ _ _ => False) := fun pins H s e s' I c => by
  obtain ⟨_, _, _, _, _, _, _, _, _, _, _, _, z⟩ := c
  exact z.elim
theorem back_ep {pins : List (Addr × Obj)} {σ : L2.St} {Q : VK} {u : Value} {s : Shared} (h : EP X pins σ Q u s) : PySem.W.CmpBack (EP X pins σ Q) u s := by
  obtain ⟨v, H', I, r, q⟩ := h
  have k : EP X pins σ Q u s := ⟨v, H', I, r, q⟩
  cases v with
  | non => obtain rfl : u = .none := r; exact k
  | bl b => obtain rfl : u = .bool b := r; exact k
  | int i => obtain ⟨t, rfl⟩ := r; exact k
  | str x => obtain ⟨t, rfl⟩ := r; exact k
  | byt b => obtain ⟨t, rfl⟩ := r; exact k
  | flt b => obtain ⟨t, rfl⟩ := r; exact k
  | ref a => obtain rfl : u = .ref a := r; exact k
  | ty n => obtain rfl : u = .type n := r; exact k
/-- two instances of C, the def's promise of both -/
def rOwn (C : Addr) (sp : Sp) : R2 := fun v w H Q => ∃ a b dx dy fs gs, v = .ref a ∧ w = .ref b ∧ H a = some (.ins C dx fs) ∧ H b = some (.ins C dy gs) ∧ sp [.ref a, .ref b] H Q fun _ _ _ => False
def oOwn (C : Addr) (c : Con) : R2T := fun x y h Q => match insOf h x, insOf h y with
  | some (C1, _), some (C2, _) => C1 = C ∧ C2 = C ∧ c [x, y] h Q fun _ _ => False
  | _, _ => False
theorem p_own {c : Con} : OP K (rOwn C (liftSp K 2 c)) (oOwn C c) := fun S H h v w x y Q Q' m r1 r2 q pk => by
  unfold oOwn at q
  split at q
  · rename_i C1 g1 C2 g2 e1 e2
    obtain ⟨rfl, rfl, q⟩ := q
    obtain ⟨a, dx, fs, rfl, ea, _⟩ := insOf_ok m r1 e1
    obtain ⟨b, dy, gs, rfl, eb, _⟩ := insOf_ok m r2 e2
    exact ⟨a, b, dx, dy, fs, gs, rfl, rfl, ea, eb, S, h, [x, y], Q, _, m, .cons r1 (.cons r2 .nil), rfl, q, pk, fun _ _ _ _ _ _ _ _ _ z => z.elim⟩
  · exact q.elim
/-- a & b, a | b, a - b of one class -/
theorem o_ownBin {P : Program} {w : World} {k : Nat} {f : Addr} {fd : FuncData} {ps : List Str} {sp : Sp} {op : Operator} {nm : Str} (hP : X.prog = P) (hw : X.w = w) (hc : PySem.W.selfFirst X.K C = true) (hm : Meth X.K C nm f) (hn : nm = PySem.dunder op.info.2) (F : FnOk X.prog X.w X.K X.mg X.base (L2.CX P w) k f fd ps sp) (hr : Room k X.A) (hb : Binds X.K fd ps []) :
    OpR X (binaryOp op) (rOwn C sp) := by
  intro pins s σ H x y v u Q I rx ry h
  obtain ⟨a, b, dx, dy, fs, gs, rfl, rfl, ea, eb, q⟩ := h
  obtain rfl : v = .ref a := rx
  obtain rfl : u = .ref b := ry
  obtain ⟨oa, Ja⟩ := instAt I ea
  obtain ⟨ob, Jb⟩ := instAt I eb
  obtain ⟨mm, fr⟩ := I.fr
  subst hn
  refine PySem.W.binop_K fr I.ok.mod.kin Ja Jb.type hc hm.at_ hm.fn ?_
  exact wpAny_mono (run_fnS (us := [.ref a, .ref b]) (vs := [.ref a, .ref b]) (E := fun _ _ _ _ => False) F hr hb (noneAt hP hw σ) I (.cons rfl (.cons rfl .nil)) q) (fun _ _ z => back_ep z) fun _ _ z => z
/-- a <= b, a == b of one class -/
theorem o_ownCmp {P : Program} {w : World} {k : Nat} {f : Addr} {fd : FuncData} {ps : List Str} {sp : Sp} {op : CmpOp} {nm : Str} (hop : ∀ (A : Around) (Q E) (s : Shared) (a b : Value), wpAny (model X.prog X.w) A (richCompare op a b) Q E s → wpAny (model X.prog X.w) A (compareOp op a b) Q E s) (hP : X.prog = P) (hw : X.w = w) (hm : Meth X.K C nm f) (hn : nm = (cmpInfo op).2.1) (F : FnOk X.prog X.w X.K X.mg X.base (L2.CX P w) k f fd ps sp) (hr : Room (k + 1) X.A) (hb : Binds X.K fd ps []) :
    OpR X (compareOp op) (rOwn C sp) := by
  intro pins s σ H x y v u Q I rx ry h
  obtain ⟨a, b, dx, dy, fs, gs, rfl, rfl, ea, eb, q⟩ := h
  obtain rfl : v = .ref a := rx
  obtain rfl : u = .ref b := ry
  obtain ⟨oa, Ja⟩ := instAt I ea
  obtain ⟨ob, Jb⟩ := instAt I eb
  obtain ⟨mm, fr⟩ := I.fr
  subst hn
  refine hop _ _ _ _ _ _ (PySem.W.cmp_K (tb := .ref C) (by have := hr.units; omega) fr I.ok.mod.kin Ja Jb.type (by unfold PySem.W.notFirst; simp) hm.at_ hm.fn ?_)
  exact wpAny_mono (run_fnS (us := [.ref a, .ref b]) (vs := [.ref a, .ref b]) (E := fun _ _ _ _ => False) F (hr.mono (Nat.le_succ _)) hb (noneAt hP hw σ) I (.cons rfl (.cons rfl .nil)) q) (fun _ _ z => back_ep z) fun _ _ z => z
/-! ### isinstance(x, an own class) -/
def TyC (K : PySem.W.Frag) (C : Addr) : Prop := ∀ H a dx fs, H a = some (.ins C dx fs) → TyX K H (.ref a) (.ref C)
def oIsiC (K : PySem.W.Frag) : RLT := fun xs h Q => match xs with
  | [x, .ref D] => (∃ k, kdOf h x = some k ∧ PySem.W.kitOne K (.type k.nm) (.ref D) = some false ∧ Q (.bl false) h) ∨ (∃ C gs b, insOf h x = some (C, gs) ∧ TyC K C ∧ PySem.W.kitOne K (.ref C) (.ref D) = some b ∧ Q (.bl b) h)
  | _ => False
theorem c_isiC : CP K (rIsi K) (oIsiC K) := fun S H h vs xs Q Q' m r q pk => by
  unfold oIsiC at q
  split at q
  · cases r with
    | cons r1 rn => cases rn with
      | cons r2 rn =>
        cases rn
        cases r2
        rcases q with ⟨k, e1, e2, q⟩ | ⟨C, gs, b, e1, ty, e2, q⟩
        · exact ⟨_, _, _, _, _, rfl, .own _, kd_ty m r1 e1, e2, pk S H h _ _ Fut.refl m (.bl _) q⟩
        · obtain ⟨a, dx, fs, rfl, ea, _⟩ := insOf_ok m r1 e1
          exact ⟨_, _, _, _, _, rfl, .own _, ty H a dx fs ea, e2, pk S H h _ _ Fut.refl m (.bl _) q⟩
  · exact q.elim
end
end TL

/-! TLS: a != b over an own ==. -/
namespace TL
open PySem L2
section
variable {prog : Program} {w : World} {A : Around} {E : Value → Shared → Prop} {s : Shared} {K : PySem.W.Frag} {x C f : Addr} {ox : Obj} {od : Option Obj} {b tb : Value}
theorem objNe_own (hu : A.units < cLine) (X : K.In s.heap) (I : PySem.W.InstAt s.heap x ox C od) (hs : PySem.W.findIn K (.ref C) "__eq__" = some (some (.ref f))) (hf : PySem.W.isFn K (.ref f) = true) {Q : Fin → Shared → Prop}
    (hc : wpAny (model prog w) A (call (.ref f) [.ref x, b]) (fun v s' => ∃ r, v = .bool r ∧ Q (.done (.ret (.bool (!r)))) s') E s) : wpAny (model prog w) A (Builtin.«object.__ne__» ⟨[.ref x, b], []⟩) Q E s := by
  obtain ⟨hh, g, d, t, os⟩ := s
  unfold Builtin.«object.__ne__»
  repeat (first
    | with_reducible refine wpAny_cRoomFor hu ?_
    | (refine wpAny_bind (m := callSpecialIfBound? (.ref x) (Str.ofString "__eq__") [b]) (PySem.W.ifBound_K X I hs hf (wpAny_mono hc (fun r s' hr => by
          obtain ⟨r, rfl, q⟩ := hr
          repeat (first | exact q | exact wpAny_pure q | exact wpAny_truthy_bool q | (refine wpAny_bind (m := truthy (.bool _)) (wpAny_truthy_bool ?_)) | wp_step)) fun _ _ e => e)))
    | wp_step)
theorem ne_own (hu : A.units + 1 < cLine) (X : K.In s.heap) (I : PySem.W.InstAt s.heap x ox C od) (hb : PySem.W.Looks (model prog w) s.heap (typeOf b) tb) (hn : PySem.W.notFirst K C tb = true) (hne : PySem.W.findIn K (.ref C) "__ne__" = some (some (.builtin "object.__ne__")))
    (hsub : PySem.W.subIn K (.ref C) (.type "object") = some true) (hs : PySem.W.findIn K (.ref C) "__eq__" = some (some (.ref f))) (hf : PySem.W.isFn K (.ref f) = true) {Q : Value → Shared → Prop}
    (hc : wpAny (model prog w) A.in1 (call (.ref f) [.ref x, b]) (fun v s' => ∃ r, v = .bool r ∧ Q (.bool (!r)) s') E s) : wpAny (model prog w) A (compareOp .NotEq (.ref x) b) Q E s := by
  have cal : wpAny (model prog w) A (call (.builtin "object.__ne__") [.ref x, b]) (fun v s' => ∃ r, v = .bool r ∧ Q (.bool r) s') E s := by
    refine wpAny_call (codeAny_call_builtin PySem.F.cmp_object.ne.plain PySem.F.cmpEntry_ne (PySem.W.check_slot PySem.F.cmpKind_ne PySem.F.cmpSplit_ne (I.type.andThen (PySem.W.looks_subIn X hsub)) (PySem.F.cmpArgs_ne _ _) ?_))
    refine objNe_own (A := A.in1) hu X I hs hf (wpAny_mono hc (fun v s' ⟨r, e, q⟩ => ⟨r, e, ?_⟩) fun _ _ z => z)
    exact ⟨_, rfl, q⟩
  have one : wpAny (model prog w) A (tryCompare (.ref x) "__ne__" b) (fun r s' => ∃ v, r = some v ∧ Q v s') E s := by
    unfold tryCompare
    simp only [callSpecialIfBound?, bindSpecialIfBound?]
    refine wpAny_bind (wpAny_holding (wpAny_bind (wpAny_bind (wpAny_bind (I.type.here ((PySem.W.looks_findIn X hne).here ?_))))))
    simp only [PySem.F.cmp_object.ne.bind]
    refine wpAny_bind (wpAny_askSetting (wpAny_ite ?_))
    split
    · refine wpAny_bind (wpAny_pure (wpAny_pure ?_))
      refine wpAny_bind (m := call _ _) (wpAny_mono cal (fun v s' ⟨r, e, q⟩ => ?_) fun _ _ z => z)
      subst e; exact wpAny_pure (wpAny_pure ⟨_, rfl, q⟩)
    · refine wpAny_tryCatch (wpAny_bind (wpAny_pure (wpAny_pure ?_)))
      refine wpAny_bind (m := call _ _) (wpAny_mono cal (fun v s' ⟨r, e, q⟩ => ?_) fun _ _ z => z)
      subst e; exact wpAny_pure (wpAny_pure ⟨_, rfl, q⟩)
  have fin : ∀ (r : Option Value) (s' : Shared), (∃ v, r = some v ∧ Q v s') → wpAny (model prog w) A (match r with | some v => pure v | none => pure .none) Q E s' := fun r s' ⟨v, e, q⟩ => by subst e; exact wpAny_pure q
  show wpAny _ A (richCompare .NotEq (.ref x) b) Q E s
  unfold richCompare
  simp only [oneThing_ref]
  refine wpAny_holding (wpAny_bind (wpAny_cRoomFor (by omega) (wpAny_bind (I.type.here (wpAny_bind (hb.here ?_))))))
  split
  · rename_i q
    have e : PySem.W.subIn K tb (.ref C) = some false := (Bool.or_eq_true_iff.mp hn).elim (fun e => by rw [beq_iff_eq.mp e] at q; simp at q) beq_iff_eq.mp
    refine wpAny_bind ((PySem.W.looks_subIn X e).here ?_)
    simp only [Bool.false_eq_true, if_false]
    refine wpAny_bind (wpAny_mono one (fun r s' ⟨v, e, q⟩ => ?_) fun _ _ z => z)
    subst e; exact wpAny_pure q
  · refine wpAny_bind (wpAny_pure ?_)
    simp only [Bool.false_eq_true, if_false]
    refine wpAny_bind (wpAny_mono one (fun r s' ⟨v, e, q⟩ => ?_) fun _ _ z => z)
    subst e; exact wpAny_pure q
end
section
variable {X : Cx} {K : PySem.W.Frag} {C : Addr}
theorem run_fn1 {P : Program} {w : World} {k : Nat} {f : Addr} {fd : FuncData} {ps : List Str} {sp : Sp} {pins : List (Addr × Obj)} {σ : L2.St} {H : Hp} {s : Shared} {Q : VK} {us : List Value} {vs : List V} (hP : X.prog = P) (hw : X.w = w) (F : FnOk X.prog X.w X.K X.mg X.base (L2.CX P w) k f fd ps sp) (hr : Room (k + 1) X.A) (hb : Binds X.K fd ps [])
    (I : Inv X pins σ H s) (r : Vals vs us) (h : sp vs H Q fun _ _ _ => False) : wpAny (model X.prog X.w) X.A.in1 (call (.ref f) us) (EP X pins σ Q) X.xe s := by
  have hl : (us ++ []).length = ps.length := by rw [List.append_nil, ← r.length]; exact F.len _ _ _ _ h
  have bd := hb s us I.kIn hl
  rw [List.append_nil] at bd
  refine wpAny_call (codeAny_mono (F.run X.A.in1 X.stack s H ⟨us, []⟩ us vs Q _ hr.in1 I.env0.in1 bd r h) fun o s' z => ?_)
  rcases o with e | (u | _ | _ | _)
  · exact noneAt hP hw σ pins H s e s' I z
  all_goals first
    | exact I.after z
    | exact False.elim z
def oOwnNe (C : Addr) (c : Con) : R2T := fun x y h Q => match insOf h x, insOf h y with
  | some (C1, _), some (C2, _) => C1 = C ∧ C2 = C ∧ c [x, y] h (fun v h1 => match v with
    | .bl b => Q (.bl (!b)) h1
    | _ => False) fun _ _ => False
  | _, _ => False
def rOwnNe (C : Addr) (sp : Sp) : R2 := fun v w H Q => ∃ a b dx dy fs gs, v = .ref a ∧ w = .ref b ∧ H a = some (.ins C dx fs) ∧ H b = some (.ins C dy gs) ∧ sp [.ref a, .ref b] H (fun z H1 => ∃ r, z = .bl r ∧ Q (.bl (!r)) H1) fun _ _ _ => False
theorem p_ownNe {c : Con} : OP K (rOwnNe C (liftSp K 2 c)) (oOwnNe C c) := fun S H h v w x y Q Q' m r1 r2 q pk => by
  unfold oOwnNe at q
  split at q
  · rename_i C1 g1 C2 g2 e1 e2
    obtain ⟨rfl, rfl, q⟩ := q
    obtain ⟨a, dx, fs, rfl, ea, _⟩ := insOf_ok m r1 e1
    obtain ⟨b, dy, gs, rfl, eb, _⟩ := insOf_ok m r2 e2
    refine ⟨a, b, dx, dy, fs, gs, rfl, rfl, ea, eb, S, h, [x, y], _, _, m, .cons r1 (.cons r2 .nil), rfl, q, fun S1 H1 h1 z u f1 m1 r3 q3 => ?_, fun _ _ _ _ _ _ _ _ _ z => z.elim⟩
    dsimp only at q3
    split at q3
    · cases r3; exact ⟨_, rfl, pk S1 H1 h1 _ _ f1 m1 (.bl _) q3⟩
    · exact q3.elim
  · exact q.elim
theorem o_ownNe {P : Program} {w : World} {k : Nat} {f : Addr} {fd : FuncData} {ps : List Str} {sp : Sp} (hP : X.prog = P) (hw : X.w = w) (hm : Meth X.K C "__eq__" f) (hne : PySem.W.findIn X.K (.ref C) "__ne__" = some (some (.builtin "object.__ne__"))) (hsub : PySem.W.subIn X.K (.ref C) (.type "object") = some true) (F : FnOk X.prog X.w X.K X.mg X.base (L2.CX P w) k f fd ps sp) (hr : Room (k + 1) X.A) (hb : Binds X.K fd ps []) :
    OpR X (compareOp .NotEq) (rOwnNe C sp) := by
  intro pins s σ H x y v u Q I rx ry h
  obtain ⟨a, b, dx, dy, fs, gs, rfl, rfl, ea, eb, q⟩ := h
  obtain rfl : v = .ref a := rx
  obtain rfl : u = .ref b := ry
  obtain ⟨oa, Ja⟩ := instAt I ea
  obtain ⟨ob, Jb⟩ := instAt I eb
  refine ne_own (tb := .ref C) (by have := hr.units; omega) I.kIn Ja Jb.type (by unfold PySem.W.notFirst; simp) hne hsub hm.at_ hm.fn ?_
  refine wpAny_mono (run_fn1 (us := [.ref a, .ref b]) (vs := [.ref a, .ref b]) hP hw F hr hb I (.cons rfl (.cons rfl .nil)) q) (fun z s' ⟨v, H1, I1, r1, r, e, q1⟩ => ?_) fun _ _ z => z
  subst e
  obtain rfl : z = .bool r := r1
  exact ⟨r, rfl, .bl (!r), H1, I1, rfl, q1⟩
end
end TL

/-! TLR: y in o, len(o), the truth of o, o[i] by own defs. -/
namespace TL
open PySem L2
section
variable {X : Cx} {W : WX} {K : PySem.W.Frag} {C : Addr}
/-! ### y in o -/
def oOwnIn (neg : Bool) (C : Addr) (c : Con) : R2T := fun y x h Q => match insOf h x with
  | some (C1, _) => C1 = C ∧ c [x, y] h (fun v h1 => match v with
    | .bl b => Q (.bl (xor neg b)) h1
    | _ => False) fun _ _ => False
  | none => False
def rOwnIn (neg : Bool) (C : Addr) (sp : Sp) : R2 := fun v w H Q => ∃ a dx fs, w = .ref a ∧ H a = some (.ins C dx fs) ∧ sp [.ref a, v] H (fun z H1 => ∃ r, z = .bl r ∧ Q (.bl (xor neg r)) H1) fun _ _ _ => False
theorem p_ownIn {neg : Bool} {c : Con} : OP K (rOwnIn neg C (liftSp K 2 c)) (oOwnIn neg C c) := fun S H h v w y x Q Q' m r1 r2 q pk => by
  unfold oOwnIn at q
  split at q
  · rename_i C1 g1 e1
    obtain ⟨rfl, q⟩ := q
    obtain ⟨a, dx, fs, rfl, ea, _⟩ := insOf_ok m r2 e1
    refine ⟨a, dx, fs, rfl, ea, S, h, [x, y], _, _, m, .cons r2 (.cons r1 .nil), rfl, q, fun S1 H1 h1 z u f1 m1 r3 q3 => ?_, fun _ _ _ _ _ _ _ _ _ z => z.elim⟩
    dsimp only at q3
    split at q3
    · cases r3; exact ⟨_, rfl, pk S1 H1 h1 _ _ f1 m1 (.bl _) q3⟩
    · exact q3.elim
  · exact q.elim
theorem o_ownIn {P : Program} {w : World} {k : Nat} {f : Addr} {fd : FuncData} {ps : List Str} {sp : Sp} (hP : X.prog = P) (hw : X.w = w) (hm : Meth X.K C "__contains__" f) (F : FnOk X.prog X.w X.K X.mg X.base (L2.CX P w) k f fd ps sp) (hr : Room k X.A) (hb : Binds X.K fd ps []) : OpR X (compareOp .In) (rOwnIn false C sp) := by
  intro pins s σ H x y v u Q I rx ry h
  obtain ⟨a, dx, fs, rfl, ea, q⟩ := h
  obtain rfl : u = .ref a := ry
  obtain ⟨oa, Ja⟩ := instAt I ea
  obtain ⟨mm, fr⟩ := I.fr
  refine PySem.W.in_K fr I.ok.mod.kin Ja hm.at_ hm.fn ?_
  refine wpAny_mono (run_fnS (us := [.ref a, v]) (vs := [.ref a, x]) (E := fun _ _ _ _ => False) F hr hb (noneAt hP hw σ) I (.cons rfl (.cons rx .nil)) q) (fun z s' ⟨t, H1, I1, r1, r, e, q1⟩ => ?_) fun _ _ z => z
  subst e
  obtain rfl : z = .bool r := r1
  exact wpAny_truthy_bool ⟨.bl r, H1, I1, rfl, by simpa using q1⟩
theorem o_ownNotIn {P : Program} {w : World} {k : Nat} {f : Addr} {fd : FuncData} {ps : List Str} {sp : Sp} (hP : X.prog = P) (hw : X.w = w) (hm : Meth X.K C "__contains__" f) (F : FnOk X.prog X.w X.K X.mg X.base (L2.CX P w) k f fd ps sp) (hr : Room k X.A) (hb : Binds X.K fd ps []) : OpR X (compareOp .NotIn) (rOwnIn true C sp) := by
  intro pins s σ H x y v u Q I rx ry h
  obtain ⟨a, dx, fs, rfl, ea, q⟩ := h
  obtain rfl : u = .ref a := ry
  obtain ⟨oa, Ja⟩ := instAt I ea
  obtain ⟨mm, fr⟩ := I.fr
  refine PySem.W.notIn_K fr I.ok.mod.kin Ja hm.at_ hm.fn ?_
  refine wpAny_mono (run_fnS (us := [.ref a, v]) (vs := [.ref a, x]) (E := fun _ _ _ _ => False) F hr hb (noneAt hP hw σ) I (.cons rfl (.cons rx .nil)) q) (fun z s' ⟨t, H1, I1, r1, r, e, q1⟩ => ?_) fun _ _ z => z
  subst e
  obtain rfl : z = .bool r := r1
  exact wpAny_truthy_bool ⟨.bl (!r), H1, I1, rfl, by simpa using q1⟩
/-! ### len(o) -/
def oOwnLen (C : Addr) (c : Con) : RLT := fun xs h Q => match xs with
  | [x] => match insOf h x with
    | some (C1, _) => C1 = C ∧ c [x] h (fun v h1 => match v with
      | .int i => 0 ≤ i ∧ i < 2 ^ 60 ∧ Q (.int i) h1
      | _ => False) fun _ _ => False
    | none => False
  | _ => False
def rOwnLen (C : Addr) (sp : Sp) : List V → Hp → VK → Prop := fun xs H Q => ∃ a dx fs, xs = [.ref a] ∧ H a = some (.ins C dx fs) ∧ sp [.ref a] H (fun z H1 => ∃ i : Int, z = .int i ∧ 0 ≤ i ∧ i < 2 ^ 60 ∧ Q (.int i) H1) fun _ _ _ => False
theorem c_ownLen {c : Con} : CP K (rOwnLen C (liftSp K 1 c)) (oOwnLen C c) := fun S H h vs xs Q Q' m r q pk => by
  unfold oOwnLen at q
  split at q
  · cases r with
    | cons r1 rn =>
      cases rn
      split at q
      · rename_i x C1 g1 e1
        obtain ⟨rfl, q⟩ := q
        obtain ⟨a, dx, fs, rfl, ea, _⟩ := insOf_ok m r1 e1
        refine ⟨a, dx, fs, rfl, ea, S, h, [_], _, _, m, .cons r1 .nil, rfl, q, fun S1 H1 h1 z u f1 m1 r3 q3 => ?_, fun _ _ _ _ _ _ _ _ _ z => z.elim⟩
        dsimp only at q3
        split at q3
        · cases r3; exact ⟨_, rfl, q3.1, q3.2.1, pk S1 H1 h1 _ _ f1 m1 (.int _) q3.2.2⟩
        · exact q3.elim
      · exact q.elim
  · exact q.elim
theorem call_ownLen {P : Program} {w : World} {k : Nat} {f : Addr} {fd : FuncData} {ps : List Str} {sp : Sp} (hP : X.prog = P) (hw : X.w = w) (hm : Meth X.K C "__len__" f) (F : FnOk X.prog X.w X.K X.mg X.base (L2.CX P w) k f fd ps sp) (hr : Room (k + 1) X.A) (hb : Binds X.K fd ps []) : CallR X (.builtin "len") (rOwnLen C sp) := by
  intro pins s σ H xs us Q I r h
  obtain ⟨a, dx, fs, rfl, ea, q⟩ := h
  obtain ⟨u, rfl, e⟩ := vals1 r
  obtain rfl : u = .ref a := e
  obtain ⟨oa, Ja⟩ := instAt I ea
  obtain ⟨mm, fr⟩ := I.fr
  refine PySem.W.len_K fr I.ok.mod.kin Ja hm.at_ hm.fn ?_
  refine wpAny_mono (run_fn1 (us := [.ref a]) (vs := [.ref a]) hP hw F hr hb I (.cons rfl .nil) q) (fun z s' ⟨t, H1, I1, r1, i, e, i0, i1, q1⟩ => ?_) fun _ _ z => z
  subst e
  obtain ⟨tt, rfl⟩ := r1
  exact ⟨⟨i0, by omega⟩, ⟨.int i, H1, I1.tok _, ⟨_, rfl⟩, q1⟩⟩
/-! ### the truth of o -/
def tOwn (C : Addr) (c : Con) (m : EM) : TM := fun s h Q E => m s h (fun x h1 => match insOf h1 x with
  | some (C1, _) => C1 = C ∧ c [x] h1 (fun v h2 => match v with
    | .bl b => Q b h2
    | _ => False) fun _ _ => False
  | none => False) E
theorem pt_own {P : Program} {w : World} {k : Nat} {f : Addr} {fd : FuncData} {ps : List Str} {sp : Sp} {a : Expr} {ta : TE} (hP : X.prog = P) (hw : X.w = w) (hm : Meth X.K C "__bool__" f) (F : FnOk X.prog X.w X.K X.mg X.base (L2.CX P w) k f fd ps sp) (hr : Room k X.A) (hb : Binds X.K fd ps []) (ha : PE X a ta) (he : ∀ whole, isTrue a X.env whole = (do let v ← whole; standAt a.pos; holding [v] (truthy v))) :
    PT X a (fun σ H Q => ta σ H fun x H' => ∃ p dx fs, x = .ref p ∧ H' p = some (.ins C dx fs) ∧ sp [.ref p] H' (fun z H1 => ∃ r, z = .bl r ∧ Q r H1) fun _ _ _ => False) := ⟨fun pins s σ H Q I h => by
  refine PyProof.Rows.isTrue_plain (thn (ha.run pins s σ H _ I h) fun v s1 ⟨x, H1, I1, r1, p, dx, fs, ex, ep, q⟩ => ?_) (he _)
  subst ex
  obtain rfl : v = .ref p := r1
  obtain ⟨oa, Ja⟩ := instAt I1 ep
  obtain ⟨mm, fr⟩ := I1.fr
  refine PySem.W.truthy_K fr I1.ok.mod.kin Ja hm.at_ hm.fn ?_
  refine wpAny_mono (run_fnS (us := [.ref p]) (vs := [.ref p]) (E := fun _ _ _ _ => False) F hr hb (noneAt hP hw σ) I1 (.cons rfl .nil) q) (fun z s' ⟨t, H2, I2, r2, r, e, q1⟩ => ?_) fun _ _ z => z
  subst e
  obtain rfl : z = .bool r := r2
  exact ⟨H2, I2, q1⟩⟩
theorem jt_own {P : Program} {w : World} {k : Nat} {f : Addr} {fd : FuncData} {ps : List Str} {c : Con} {a : Expr} {m : EM} (hP : X.prog = P) (hw : X.w = w) (hm : Meth X.K C "__bool__" f) (F : FnOk X.prog X.w X.K X.mg X.base (L2.CX P w) k f fd ps (liftSp X.K 1 c)) (hr : Room k X.A) (hb : Binds X.K fd ps []) (ha : JE X W a m) (he : ∀ whole, isTrue a X.env whole = (do let v ← whole; standAt a.pos; holding [v] (truthy v)) := by intro _; rfl) :
    JT X W a (tOwn C c m) := PT.wk (pt_own hP hw hm F hr hb ha he) fun σ H Q' ⟨S, h, s, Q, E, m, rs, lk, hm, pk⟩ =>
  ⟨S, h, s, _, E, m, rs, lk, hm, fun S1 H1 h1 v x f1 m1 r1 q1 => by
    split at q1
    · rename_i C1 g1 e1
      obtain ⟨rfl, q⟩ := q1
      obtain ⟨p, dx, fs, rfl, ep, _⟩ := insOf_ok m1 r1 e1
      refine ⟨p, dx, fs, rfl, ep, S1, h1, [x], _, _, m1, .cons r1 .nil, rfl, q, fun S2 H2 h2 z u f2 m2 r3 q3 => ?_, fun _ _ _ _ _ _ _ _ _ z => z.elim⟩
      dsimp only at q3
      split at q3
      · cases r3; exact ⟨_, rfl, pk S2 H2 h2 _ (f1.trans f2) m2 q3⟩
      · exact q3.elim
    · exact q1.elim⟩
end
end TL

/-! TLQ: range(a, b) of any numbers. -/
namespace TL
open PySem PySem.Spec L2 PyProof.Rows
theorem turn_long {P : Program} {w : World} {K : PySem.W.Frag} {tg : Expr} (it : Addr) (lo : Int) (n : Nat) : Turn P w K tg (Itr lo n) [it] it (fun i h => IsLongIter h it (lo + (i : Nat) * 1) ((n : Int) - (i : Nat)) 1) where
  mem := by simp
  obj := fun i h st b hb => by
    have e : b = it := by simpa using hb
    subst e
    exact ⟨_, st, fun v z => by
      have z' : Data.fields _ = Data.cell v := z
      cases z'⟩
  keep := fun i h h' st k => k it (by simp) _ st
  item := by
    intro X hP hw hK hc i pins s σ H E I hf st hg
    subst hP hw hK
    obtain ⟨f0, f1, f2, f3, f4, f5⟩ := hf it (by simp)
    have W := Walks.longrange (prog := X.prog) (w := X.w) (I.ok.hd hc) it lo 1 n
    refine W.item i s _ _ hg st fun v h' tk hv st' kk => ?_
    obtain ⟨t, rfl⟩ := hv
    have I1 : Inv X pins σ H { s with heap := h', toks := tk } := I.turned (fun b o hb e => kk b o (by simpa using hb) e) f0 f1 f3 f4 f5
    refine ⟨_, rfl, go_of (s := { s with heap := h', toks := tk }) (n := "longrange_iterator") st' rfl rfl (by decide) ⟨.int (lo + i), H, I1, ⟨t, ?_⟩, ⟨rfl, rfl⟩, st', fun b hb => (hf b hb).1⟩⟩
    rw [Int.mul_one]
  done := by
    intro X hP hw hK hc i pins s σ H E I hf st hg
    subst hP hw hK
    obtain ⟨f0, f1, f2, f3, f4, f5⟩ := hf it (by simp)
    exact wpAny_pyNext_long_end (I.ok.hd hc) st (by have : n ≤ i := hg; omega) fun h' eb => ⟨rfl, I.turned (t' := s.toks) (fun b o hb e => eb b o hb e) f0 f1 f3 f4 f5⟩
  self := fun _ _ _ _ _ st h => wpAny_pyIter_longiter st h
section
variable {X : Cx} {W : WX} {tg : Expr}
theorem range_itW {pins : List (Addr × Obj)} {σ : L2.St} {H : Hp} {s : Shared} {R : It → Hp → Prop} {E : Value → Shared → Prop} {lo hi : Int} {t u v : Tok} {tk : Nat} (I : Inv X pins σ H s)
    (q : R (Itr lo (hi - lo).toNat) H) : wpAny (model X.prog X.w) X.A (pyIter (.ref s.heap.objs.size)) (PIE X pins σ tg R) E { s with heap := s.heap.push { cls := .type "range", data := .fields #[.int lo t, .int hi u, .int 1 v] }, toks := tk } := by
  have I1 : Inv X pins σ H { s with heap := s.heap.push { cls := .type "range", data := .fields #[.int lo t, .int hi u, .int 1 v] }, toks := tk } := I.kept fun b o e => Heap.get?_push_of_some _ e
  have e1 : lo + ((0 : Nat) : Int) * 1 = lo := by simp
  have e2 : (((hi - lo).toNat : Nat) : Int) - ((0 : Nat) : Int) = Builtin.Range.rangeSize lo hi 1 := by rw [rangeSize_one]; split <;> omega
  cases sm : Builtin.Range.small lo hi 1 with
  | true =>
    refine wpAny_pyIter_range (IsRange.new ..) sm ?_
    refine ⟨(s.heap.push { cls := .type "range", data := .fields #[.int lo t, .int hi u, .int 1 v] }).objs.size, [(s.heap.push { cls := .type "range", data := .fields #[.int lo t, .int hi u, .int 1 v] }).objs.size], _, _, H, rfl,
      I1.kept (t' := tk) fun b o e => Heap.get?_push_of_some _ e, turn_range _ lo (hi - lo).toNat, ?_, fun b hb => ?_, q⟩
    · show IsRangeIter _ _ (lo + ((0 : Nat) : Int) * 1) ((((hi - lo).toNat : Nat) : Int) - ((0 : Nat) : Int)) 1
      rw [e1, e2]
      exact Heap.get?_push_size _ rfl
    · have e : b = (s.heap.push { cls := .type "range", data := .fields #[.int lo t, .int hi u, .int 1 v] }).objs.size := by simpa using hb
      subst e
      exact I1.fpOk (Nat.le_refl _) (I1.hok.fresh (Nat.le_refl _))
  | false =>
    refine wpAny_pyIter_longrange (IsRange.new ..) sm ?_
    refine ⟨(s.heap.push { cls := .type "range", data := .fields #[.int lo t, .int hi u, .int 1 v] }).objs.size, [(s.heap.push { cls := .type "range", data := .fields #[.int lo t, .int hi u, .int 1 v] }).objs.size], _, _, H, rfl,
      I1.kept (t' := tk) fun b o e => Heap.get?_push_of_some _ e, turn_long _ lo (hi - lo).toNat, ?_, fun b hb => ?_, q⟩
    · show IsLongIter _ _ (lo + ((0 : Nat) : Int) * 1) ((((hi - lo).toNat : Nat) : Int) - ((0 : Nat) : Int)) 1
      rw [e1, e2]
      exact Heap.get?_push_size _ rfl
    · have e : b = (s.heap.push { cls := .type "range", data := .fields #[.int lo t, .int hi u, .int 1 v] }).objs.size := by simpa using hb
      subst e
      exact I1.fpOk (Nat.le_refl _) (I1.hok.fresh (Nat.le_refl _))
def iRngW (ta : TA) : TI := fun σ H R => ta σ H fun vs H1 => ∃ i j : Int, vs = [.int i, .int j] ∧ R (Itr i (j - i).toNat) H1
theorem pi_rangeW {a b : Expr} {ta : TA} {p pos : Pos} (hg : Gl X "range") (hm : X.mg "range" = none) (ha : PA X [a, b] ta) (hs : starEach [a, b] X.env = [(false, eval a X.env), (false, eval b X.env)] := by rfl) (hs2 : starEach [b] X.env = [(false, eval b X.env)] := by rfl) :
    PI X tg (.Call (.Name "range" p) [a, b] [] pos) (iRngW ta) := by
  refine ⟨fun pins s σ H R I h => ?_⟩
  refine Call_ (ld_blt I hg hm boot_range (PyProof.Rows.callWith_type1 (thn (ha.run pos pins s σ H _ I h) fun us s1 ⟨vs, H1, I1, r1, q1⟩ => ?_) (by rw [hs, hs2]) (by rw [hs2]; rfl)))
  obtain ⟨i, j, e, q⟩ := q1
  subst e
  cases r1 with
  | cons r rr =>
    cases rr with
    | cons r' rr =>
      cases rr
      obtain ⟨t, rfl⟩ := r
      obtain ⟨t', rfl⟩ := r'
      exact call_range_2 (range_itW I1 q)
def iRangeW (a : AM) : IM := fun s h Q E => a s h (fun ts h1 => match ts with
  | [.int i, .int j] => Q (rng i (j - i).toNat) (fun _ => True) h1
  | _ => False) E
theorem ji_rangeW {e e2 : Expr} {a : AM} {p pos : Pos} (hg : Gl X "range") (hm : X.mg "range" = none) (ha : JA X W [e, e2] a) (hs : starEach [e, e2] X.env = [(false, eval e X.env), (false, eval e2 X.env)] := by rfl) (hs2 : starEach [e2] X.env = [(false, eval e2 X.env)] := by rfl) :
    JI X W tg (.Call (.Name "range" p) [e, e2] [] pos) (iRangeW a) := PI.wk (pi_rangeW hg hm ha hs hs2) fun σ H R ⟨S, h, s, Q, E, m, rs, lk, hm, pk⟩ =>
  ⟨S, h, s, _, E, m, rs, lk, hm, fun S1 H1 h1 vs ts f1 m1 r1 q1 => by
    split at q1
    · cases r1 with
      | cons ra rn => cases rn with
        | cons rb rn =>
          cases rn; cases ra; cases rb
          exact ⟨_, _, rfl, pk S1 H1 h1 _ _ _ f1 m1 rng_it q1⟩
    · exact q1.elim⟩
end
end TL

/-! GB: the ends of a book's holds. -/
namespace GB
def part (t b h : Int) : Int := -(-h * t / b)
structure Ok (f r t b : Int) : Prop where
  f1 : 1 ≤ f
  fr : f ≤ r
  r1 : r ≤ 10 ^ 30
  t1 : 1 ≤ t
  t2 : t ≤ 100
  b1 : 1 ≤ b
  b2 : b ≤ 100
def step (f r t b h : Int) : Int := if part t b h < f then f else if part t b h < r then part t b h else r
def E (f r t b : Int) : Nat → Int
  | 0 => 0
  | n + 1 => E f r t b n + step f r t b (E f r t b n)
/-- the ramp ends behind n steps -/
structure Ramp (f r t b : Int) (n : Nat) : Prop where
  top : r ≤ step f r t b (E f r t b n)
  low : ∀ i, i < n → step f r t b (E f r t b i) < r
  few : n ≤ 20000
theorem part_mono {t b h h' : Int} (ht : 0 ≤ t) (hb : 0 < b) (l : h ≤ h') : part t b h ≤ part t b h' := by
  unfold part
  have h1 : -h' * t ≤ -h * t := Int.mul_le_mul_of_nonneg_right (by omega) ht
  have := Int.ediv_le_ediv hb h1
  omega
/-- part is the ceiling -/
theorem part_up {t b h : Int} (hb : 0 < b) : h * t ≤ part t b h * b := by
  unfold part
  have h1 := Int.ediv_mul_le (-h * t) (Int.ne_of_gt hb)
  have h2 : -(-h * t / b) * b = -(-h * t / b * b) := Int.neg_mul ..
  have h3 : -h * t = -(h * t) := Int.neg_mul ..
  rw [h2]
  rw [h3] at h1 ⊢
  omega
section
variable {f r t b : Int} (o : Ok f r t b)
include o
theorem step_ge (h : Int) : f ≤ step f r t b h := by
  have := o.fr
  unfold step
  split
  · omega
  · split <;> omega
theorem step_pos (h : Int) : 1 ≤ step f r t b h := Int.le_trans o.f1 (step_ge o h)
theorem step_le (h : Int) : step f r t b h ≤ r := by
  have := o.fr
  unfold step
  split
  · omega
  · split <;> omega
theorem step_mono {h h' : Int} (l : h ≤ h') : step f r t b h ≤ step f r t b h' := by
  have := part_mono (t := t) (b := b) (by have := o.t1; omega) (by have := o.b1; omega) l
  have := o.fr
  unfold step
  split <;> split <;> (try split) <;> (try split) <;> omega
theorem E_succ (n : Nat) : E f r t b (n + 1) = E f r t b n + step f r t b (E f r t b n) := rfl
theorem E_lt (n : Nat) : E f r t b n < E f r t b (n + 1) := by
  have := step_pos o (E f r t b n)
  rw [E_succ o]; omega
theorem E_mono {i j : Nat} (l : i ≤ j) : E f r t b i ≤ E f r t b j := by
  induction j with
  | zero => have : i = 0 := by omega
            subst this; exact Int.le_refl _
  | succ j ih =>
    by_cases c : i = j + 1
    · subst c; exact Int.le_refl _
    · have := ih (by omega)
      have := E_lt o j
      omega
theorem E_strict {i j : Nat} : E f r t b i < E f r t b j ↔ i < j := by
  constructor
  · intro l
    by_cases c : i < j
    · exact c
    · have := E_mono o (show j ≤ i by omega)
      omega
  · intro l
    have h1 := E_lt o i
    have h2 := E_mono o (show i + 1 ≤ j by omega)
    omega
theorem E_inj {i j : Nat} (e : E f r t b i = E f r t b j) : i = j := by
  have h1 := E_strict o (i := i) (j := j)
  have h2 := E_strict o (i := j) (j := i)
  rw [e] at h1 h2
  omega
theorem E_nonneg (n : Nat) : 0 ≤ E f r t b n := E_mono o (Nat.zero_le n)
theorem E_ge (n : Nat) : (n : Int) ≤ E f r t b n := by
  induction n with
  | zero => exact Int.le_refl _
  | succ n ih => have := E_lt o n; omega
theorem E_le (n : Nat) : E f r t b n ≤ n * r := by
  induction n with
  | zero => show (0 : Int) ≤ 0 * r; omega
  | succ n ih =>
    have := step_le o (E f r t b n)
    rw [E_succ o, Int.natCast_add, Int.add_mul]
    omega
/-- behind the ramp -/
theorem E_top {n : Nat} (h : r ≤ step f r t b (E f r t b n)) : ∀ k : Nat, E f r t b (n + k) = E f r t b n + k * r ∧ step f r t b (E f r t b (n + k)) = r
  | 0 => ⟨by simp, Int.le_antisymm (step_le o _) h⟩
  | k + 1 => by
    obtain ⟨h1, h2⟩ := E_top h k
    have e : E f r t b (n + (k + 1)) = E f r t b n + ((k + 1 : Nat) : Int) * r := by
      show E f r t b (n + k) + step f r t b (E f r t b (n + k)) = _
      rw [h2, h1, Int.natCast_add, Int.add_mul]
      omega
    refine ⟨e, Int.le_antisymm (step_le o _) ?_⟩
    exact Int.le_trans h (step_mono o (E_mono o (by omega)))
/-- on the ramp the holds grow -/
theorem low_grow {i : Nat} (h : step f r t b (E f r t b i) < r) : E f r t b i ≤ 100 * step f r t b (E f r t b i) ∧ E f r t b i ≤ 10 ^ 32 := by
  have h0 := E_nonneg o i
  have hb := o.b1
  have hb2 := o.b2
  have ht := o.t1
  have hr := o.r1
  have hf := o.f1
  have hs : part t b (E f r t b i) ≤ step f r t b (E f r t b i) := by
    revert h
    unfold step
    split
    · omega
    · split <;> omega
  have hu := part_up (t := t) (h := E f r t b i) (show 0 < b by omega)
  have h1 : E f r t b i ≤ E f r t b i * t := by
    have := Int.mul_le_mul_of_nonneg_left (c := E f r t b i) ht h0
    omega
  have sp := step_pos o (E f r t b i)
  have h2 : part t b (E f r t b i) * b ≤ step f r t b (E f r t b i) * b := Int.mul_le_mul_of_nonneg_right hs (by omega)
  have h3 : step f r t b (E f r t b i) * b ≤ step f r t b (E f r t b i) * 100 := Int.mul_le_mul_of_nonneg_left hb2 (by omega)
  have e32 : (10 : Int) ^ 32 = 10 ^ 30 * 100 := by decide
  refine ⟨by omega, ?_⟩
  rw [e32]
  omega
theorem low_double {n : Nat} (h : ∀ i, i < n → step f r t b (E f r t b i) < r) (i : Nat) : ∀ k : Nat, i + k ≤ n → 100 * E f r t b i + k * E f r t b i ≤ 100 * E f r t b (i + k)
  | 0, _ => by simp
  | k + 1, hk => by
    have ih := low_double h i k (by omega)
    have g := (low_grow o (h (i + k) (by omega))).1
    have m := E_mono o (show i ≤ i + k by omega)
    show _ ≤ 100 * (E f r t b (i + k) + step f r t b (E f r t b (i + k)))
    rw [Int.natCast_add, Int.add_mul]
    omega
theorem low_pow {n : Nat} (h : ∀ i, i < n → step f r t b (E f r t b i) < r) : ∀ k : Nat, 100 * (k + 1) ≤ n → 100 * 2 ^ k ≤ E f r t b (100 * (k + 1))
  | 0, _ => by
    have := E_ge o 100
    show (100 * 1 : Int) ≤ E f r t b 100
    omega
  | k + 1, hk => by
    have ih := low_pow h k (by omega)
    have d := low_double o h (100 * (k + 1)) 100 (by omega)
    have e : 100 * (k + 1) + 100 = 100 * (k + 1 + 1) := by omega
    rw [e] at d
    have e2 : (2 : Int) ^ (k + 1) = 2 ^ k * 2 := Int.pow_succ ..
    rw [e2]
    generalize (2 : Int) ^ k = z at *
    omega
theorem low_few {n : Nat} (h : ∀ i, i < n → step f r t b (E f r t b i) < r) : n ≤ 20000 := by
  by_cases c : n ≤ 20000
  · exact c
  · have p := low_pow o h 100 (by omega)
    have g := (low_grow o (h (100 * (100 + 1)) (by omega))).2
    have e : ¬ ((100 : Int) * 2 ^ 100 ≤ 10 ^ 32) := by decide
    exact absurd (Int.le_trans p g) e
end

/-! ### rows of growths -/
def behS (f r t b : Int) (s : Int × Int × Int) (g : Int) : Int × Int × Int :=
  if 0 < s.1 + g - s.2.1 then (s.1 + g, s.2.1 + (if s.1 + g - s.2.1 > step f r t b s.2.1 then s.1 + g - s.2.1 else step f r t b s.2.1), s.2.2 + 1) else (s.1 + g, s.2.1, s.2.2)
def beh (f r t b : Int) (row : List Int) : Int × Int × Int := row.foldl (behS f r t b) (0, 0, 0)
section
variable {f r t b : Int} (o : Ok f r t b)
include o
theorem step_zero : step f r t b 0 = f := by
  have hp : part t b 0 = 0 := by unfold part; simp
  have := o.f1
  unfold step
  rw [hp, if_pos (by omega)]
theorem beh_size : ∀ (row : List Int) (s : Int × Int × Int), (row.foldl (behS f r t b) s).1 = s.1 + row.sum
  | [], s => by simp
  | g :: row, s => by
    rw [List.foldl_cons, beh_size row, List.sum_cons]
    have : (behS f r t b s g).1 = s.1 + g := by unfold behS; split <;> rfl
    omega
/-- what holds behind each growth -/
structure Inv (s : Int × Int × Int) (m : Nat) : Prop where
  eq : s.2.2 = m
  ho : E f r t b m ≤ s.2.1
  sz : s.1 ≤ s.2.1
  le : ∀ i, i < m → E f r t b i < s.1
  id : s.2.1 - s.1 ≤ if s.1 = 0 then 0 else if f < s.1 then step f r t b (s.1 - 1) - 1 else f - s.1
  z : 0 ≤ s.1
  z0 : s.2.1 = 0 ∨ f ≤ s.2.1
theorem inv_step {s : Int × Int × Int} {m : Nat} (I : Inv (f := f) (r := r) (t := t) (b := b) s m) {g : Int} (hg : 1 ≤ g) : ∃ m', Inv (f := f) (r := r) (t := t) (b := b) (behS f r t b s g) m' := by
  obtain ⟨a, h, c⟩ := s
  obtain ⟨eq, ho, sz, le, id, z, z0⟩ := I
  have hf := o.f1
  dsimp only at *
  unfold behS
  dsimp only
  by_cases n : 0 < a + g - h
  · rw [if_pos n]
    have h0 : 0 ≤ h := by have := E_nonneg o m; omega
    have sm : step f r t b (E f r t b m) ≤ step f r t b h := step_mono o ho
    have sm2 : step f r t b h ≤ step f r t b (a + g - 1) := step_mono o (by omega)
    have e := E_succ o m
    have sp := step_ge o h
    have sf := step_zero o
    have sp2 := step_pos o (a + g - 1)
    refine ⟨m + 1, ⟨by dsimp only; omega, ?_, ?_, ?_, ?_, by dsimp only; omega, ?_⟩⟩
    · dsimp only; split <;> omega
    · dsimp only; split <;> omega
    · intro i hi
      dsimp only
      have := E_mono o (show i ≤ m by omega)
      omega
    · dsimp only
      rw [if_neg (show ¬ a + g = 0 by omega)]
      by_cases c1 : f < a + g
      · rw [if_pos c1]; split <;> omega
      · rw [if_neg c1]
        have : h = 0 := by omega
        subst this
        rw [sf]
        split <;> omega
    · dsimp only; right; split <;> omega
  · rw [if_neg n]
    refine ⟨m, ⟨eq, ho, by dsimp only; omega, fun i hi => by have := le i hi; dsimp only; omega, ?_, by dsimp only; omega, z0⟩⟩
    dsimp only
    rw [if_neg (show ¬ a + g = 0 by omega)]
    by_cases a0 : a = 0
    · rw [if_pos a0] at id; omega
    · rw [if_neg a0] at id
      by_cases c1 : f < a
      · rw [if_pos c1] at id
        rw [if_pos (by omega)]
        have := step_mono o (show a - 1 ≤ a + g - 1 by omega)
        omega
      · rw [if_neg c1] at id
        by_cases c2 : f < a + g
        · rw [if_pos c2]
          have := step_ge o (a + g - 1)
          omega
        · rw [if_neg c2]; omega
theorem beh_inv : ∀ (row : List Int) (s : Int × Int × Int) (m : Nat), (∀ x ∈ row, 1 ≤ x) → Inv (f := f) (r := r) (t := t) (b := b) s m → ∃ m', Inv (f := f) (r := r) (t := t) (b := b) (row.foldl (behS f r t b) s) m'
  | [], s, m, _, I => ⟨m, I⟩
  | g :: row, s, m, hr, I => by
    obtain ⟨m1, I1⟩ := inv_step o I (hr g List.mem_cons_self)
    exact beh_inv row _ m1 (fun x hx => hr x (List.mem_cons_of_mem _ hx)) I1
theorem inv0 : Inv (f := f) (r := r) (t := t) (b := b) (0, 0, 0) 0 := by
  refine ⟨rfl, Int.le_refl _, Int.le_refl _, fun i hi => absurd hi (Nat.not_lt_zero _), ?_, Int.le_refl _, .inl rfl⟩
  simp
/-- growths of one block each -/
theorem ones_inv : ∀ (k : Nat) (s : Int × Int × Int) (m : Nat), s.2.2 = m → s.2.1 = E f r t b m → s.1 ≤ s.2.1 → (∀ i, i < m → E f r t b i < s.1) →
    ∃ m' : Nat, ((List.replicate k (1 : Int)).foldl (behS f r t b) s).2.2 = m' ∧ ((List.replicate k (1 : Int)).foldl (behS f r t b) s).2.1 = E f r t b m' ∧ s.1 + k ≤ E f r t b m' ∧ ∀ i, i < m' → E f r t b i < s.1 + k
  | 0, s, m, e1, e2, e3, e4 => ⟨m, e1, e2, by have := e2 ▸ e3; show s.1 + (0 : Nat) ≤ _; omega, fun i hi => by have := e4 i hi; show _ < s.1 + ((0 : Nat) : Int); omega⟩
  | k + 1, s, m, e1, e2, e3, e4 => by
    obtain ⟨a, h, c⟩ := s
    dsimp only at *
    rw [List.replicate_succ, List.foldl_cons]
    have sp := step_pos o h
    by_cases n : 0 < a + 1 - h
    · have eb : behS f r t b (a, h, c) 1 = (a + 1, E f r t b (m + 1), c + 1) := by
        unfold behS
        dsimp only
        rw [if_pos n, if_neg (by omega), e2, E_succ o m]
      rw [eb]
      obtain ⟨m', q1, q2, q3, q4⟩ := ones_inv k (a + 1, E f r t b (m + 1), c + 1) (m + 1) (by dsimp only; omega) rfl (by dsimp only; rw [E_succ o m, ← e2]; omega) (fun i hi => by
        have := E_mono o (show i ≤ m by omega)
        dsimp only; omega)
      dsimp only at q3 q4
      exact ⟨m', q1, q2, by omega, fun i hi => by have := q4 i hi; omega⟩
    · have eb : behS f r t b (a, h, c) 1 = (a + 1, h, c) := by
        unfold behS
        dsimp only
        rw [if_neg n]
      rw [eb]
      obtain ⟨m', q1, q2, q3, q4⟩ := ones_inv k (a + 1, h, c) m e1 e2 (by dsimp only; omega) (fun i hi => by
        have := e4 i hi
        dsimp only; omega)
      dsimp only at q3 q4
      exact ⟨m', q1, q2, by omega, fun i hi => by have := q4 i hi; omega⟩
end
section
variable {f r t b : Int} (o : Ok f r t b)
include o
theorem count_low {n : Nat} {k : Int} (hk : k ≤ E f r t b n) : ∃ g, g ≤ n ∧ ∀ i, E f r t b i < k ↔ i < g := by
  induction n with
  | zero => exact ⟨0, Nat.le_refl _, fun i => ⟨fun h => by have := E_mono o (Nat.zero_le i); omega, fun h => absurd h (Nat.not_lt_zero _)⟩⟩
  | succ n ih =>
    by_cases c : k ≤ E f r t b n
    · obtain ⟨g, h1, h2⟩ := ih c
      exact ⟨g, by omega, h2⟩
    · refine ⟨n + 1, Nat.le_refl _, fun i => ⟨fun h => ?_, fun h => ?_⟩⟩
      · exact (E_strict o).mp (Int.lt_of_lt_of_le h hk)
      · have := E_mono o (show i ≤ n by omega)
        omega
theorem count_len {n g : Nat} {k : Int} (hg : g ≤ n + 1) (h : ∀ i, E f r t b i < k ↔ i < g) : ((List.range (n + 1)).filter fun i => decide (E f r t b i < k)).length = g := by
  have e : ((List.range (n + 1)).filter fun i => decide (E f r t b i < k)) = (List.range (n + 1)).filter fun i => decide (i < g) := by
    apply List.filter_congr
    intro i _
    have := h i
    by_cases c : i < g
    · rw [decide_eq_true c, decide_eq_true (this.mpr c)]
    · rw [decide_eq_false c, decide_eq_false (fun z => c (this.mp z))]
  rw [e]
  have : n + 1 = g + (n + 1 - g) := by omega
  rw [this, List.range_add, List.filter_append]
  have e1 : (List.range g).filter (fun i => decide (i < g)) = List.range g := List.filter_eq_self.mpr fun i hi => decide_eq_true (List.mem_range.mp hi)
  have e2 : ((List.range (n + 1 - g)).map fun x => g + x).filter (fun i => decide (i < g)) = [] := by
    rw [List.filter_eq_nil_iff]
    intro i hi
    obtain ⟨j, _, rfl⟩ := List.mem_map.mp hi
    simp
  rw [e1, e2]
  simp
theorem count_top {n : Nat} (R : r ≤ step f r t b (E f r t b n)) {k : Int} (hk : E f r t b n < k) (i : Nat) : E f r t b i < k ↔ i < n + 1 + ((k - E f r t b n - 1) / r).toNat := by
  have hr : 0 < r := by have := o.f1; have := o.fr; omega
  have q0 : 0 ≤ (k - E f r t b n - 1) / r := Int.ediv_nonneg (by omega) (by omega)
  by_cases c : i ≤ n
  · have := E_mono o c
    constructor <;> intro _ <;> omega
  · obtain ⟨j, rfl⟩ : ∃ j, i = n + j := ⟨i - n, by omega⟩
    rw [(E_top o R j).1]
    have key : (j : Int) ≤ (k - E f r t b n - 1) / r ↔ (j : Int) * r ≤ k - E f r t b n - 1 := Int.le_ediv_iff_mul_le hr
    constructor
    · intro h
      have := key.mpr (by omega)
      omega
    · intro h
      have := key.mp (by omega)
      omega
theorem top_end {n : Nat} (R : r ≤ step f r t b (E f r t b n)) {k : Int} (hk : E f r t b n ≤ k) : ((k - E f r t b n) % r = 0 ↔ ∃ i, E f r t b i = k) := by
  have hr : 0 < r := by have := o.f1; have := o.fr; omega
  constructor
  · intro h
    have e := Int.mul_ediv_add_emod (k - E f r t b n) r
    rw [h, Int.add_zero] at e
    have q0 : 0 ≤ (k - E f r t b n) / r := Int.ediv_nonneg (by omega) (by omega)
    obtain ⟨j, ej⟩ := Int.eq_ofNat_of_zero_le q0
    refine ⟨n + j, ?_⟩
    rw [(E_top o R j).1, ← ej, Int.mul_comm]
    omega
  · rintro ⟨i, rfl⟩
    have : n ≤ i := by
      by_cases c : n ≤ i
      · exact c
      · have := (E_strict o).mpr (show i < n by omega)
        omega
    obtain ⟨j, rfl⟩ : ∃ j, i = n + j := ⟨i - n, by omega⟩
    rw [(E_top o R j).1]
    rw [show E f r t b n + j * r - E f r t b n = j * r by omega]
    exact Int.mul_emod_left _ _
end
/-! ### compositions -/
def cmp (n : Nat) (r : List Int) : Prop := (∀ x ∈ r, 1 ≤ x) ∧ r.sum = n
def nxt (row : List Int) : List (List Int) := [row ++ [1]] ++ (if row = [] then [] else [row.dropLast ++ [row.getLastD 0 + 1]])
theorem cmp_nxt {n : Nat} {rows : List (List Int)} (h : ∀ r, r ∈ rows ↔ cmp n r) : ∀ r, r ∈ rows.flatMap nxt ↔ cmp (n + 1) r := by
  intro r
  rw [List.mem_flatMap]
  constructor
  · rintro ⟨row, hr, hm⟩
    obtain ⟨h1, h2⟩ := (h row).mp hr
    unfold nxt at hm
    rcases List.mem_append.mp hm with z | z
    · have e : r = row ++ [1] := by simpa using z
      subst e
      refine ⟨fun x hx => ?_, by rw [List.sum_append, h2]; simp⟩
      rcases List.mem_append.mp hx with w | w
      · exact h1 x w
      · have : x = 1 := by simpa using w
        omega
    · split at z
      · cases z
      · rename_i ne
        have e : r = row.dropLast ++ [row.getLastD 0 + 1] := by simpa using z
        obtain ⟨d, l, rfl⟩ : ∃ d l, row = d ++ [l] := ⟨row.dropLast, row.getLast ne, (List.dropLast_concat_getLast ne).symm⟩
        simp at e
        subst e
        rw [List.sum_append] at h2
        refine ⟨fun x hx => ?_, by rw [List.sum_append]; simp at h2 ⊢; omega⟩
        rcases List.mem_append.mp hx with w | w
        · exact h1 x (List.mem_append_left _ w)
        · have e : x = l + 1 := by simpa using w
          have := h1 l (by simp)
          omega
  · rintro ⟨h1, h2⟩
    have ne : r ≠ [] := by rintro rfl; simp at h2; omega
    obtain ⟨d, l, rfl⟩ : ∃ d l, r = d ++ [l] := ⟨r.dropLast, r.getLast ne, (List.dropLast_concat_getLast ne).symm⟩
    rw [List.sum_append] at h2
    have hl := h1 l (by simp)
    by_cases c : l = 1
    · subst c
      refine ⟨d, (h d).mpr ⟨fun x hx => h1 x (List.mem_append_left _ hx), by simp at h2; omega⟩, by unfold nxt; simp⟩
    · refine ⟨d ++ [l - 1], (h _).mpr ⟨fun x hx => ?_, by rw [List.sum_append]; simp at h2 ⊢; omega⟩, ?_⟩
      · rcases List.mem_append.mp hx with w | w
        · exact h1 x (List.mem_append_left _ w)
        · have e : x = l - 1 := by simpa using w
          omega
      · unfold nxt
        simp
theorem nxt_len (row : List Int) : (nxt row).length ≤ 2 := by unfold nxt; split <;> simp
theorem flat_len : ∀ rows : List (List Int), (rows.flatMap nxt).length ≤ 2 * rows.length
  | [] => by simp
  | r :: rows => by
    rw [List.flatMap_cons, List.length_append, List.length_cons]
    have := nxt_len r
    have := flat_len rows
    omega
theorem cmp0 (r : List Int) : r ∈ [([] : List Int)] ↔ cmp 0 r := by
  constructor
  · intro h
    have : r = [] := by simpa using h
    subst this
    exact ⟨(fun x hx => nomatch hx), rfl⟩
  · rintro ⟨h1, h2⟩
    cases r with
    | nil => simp
    | cons x r =>
      exfalso
      have hx := h1 x List.mem_cons_self
      have : 0 ≤ r.sum := by
        clear h2
        have hr : ∀ y ∈ r, (1 : Int) ≤ y := fun y hy => h1 y (List.mem_cons_of_mem _ hy)
        clear h1
        induction r with
        | nil => simp
        | cons y r ih =>
          rw [List.sum_cons]
          have := hr y List.mem_cons_self
          have := ih fun z hz => hr z (List.mem_cons_of_mem _ hz)
          omega
      rw [List.sum_cons] at h2
      simp at h2
      omega
/-- how many ends lie below k -/
noncomputable def G (f r t b k : Int) : Nat := by
  classical
  exact if h : ∃ g : Nat, ∀ i, E f r t b i < k ↔ i < g then h.choose else 0
theorem G_spec {f r t b : Int} (o : Ok f r t b) (k : Int) : ∀ i, E f r t b i < k ↔ i < G f r t b k := by
  have h : ∃ g : Nat, ∀ i, E f r t b i < k ↔ i < g := by
    obtain ⟨g, _, h2⟩ := count_low o (n := k.toNat) (k := k) (by have := E_ge o k.toNat; omega)
    exact ⟨g, h2⟩
  unfold G
  rw [dif_pos h]
  exact h.choose_spec
theorem G_uniq {f r t b : Int} (o : Ok f r t b) {k : Int} {g : Nat} (h : ∀ i, E f r t b i < k ↔ i < g) : g = G f r t b k := by
  have h2 := G_spec o k
  by_cases c : g < G f r t b k
  · have := (h g).mp ((h2 g).mpr c); omega
  · by_cases c2 : G f r t b k < g
    · have := (h2 _).mp ((h _).mpr c2); omega
    · omega
def End (f r t b k : Int) : Prop := ∃ i, E f r t b i = k
section
variable {f r t b : Int} (o : Ok f r t b)
include o
theorem ramp_le {n : Nat} (R : Ramp f r t b n) : E f r t b n ≤ 10 ^ 32 + 10 ^ 30 := by
  cases n with
  | zero => show (0 : Int) ≤ _; decide
  | succ n =>
    have h1 := (low_grow o (R.low n (Nat.lt_succ_self n))).2
    have h2 := step_le o (E f r t b n)
    have h3 := o.r1
    rw [E_succ o]
    omega
/-- the ends are those of the ramp, and those behind it -/
theorem end_iff {n : Nat} (R : Ramp f r t b n) (k : Int) : End f r t b k ↔ (k ≤ E f r t b n ∧ ∃ i, i ≤ n ∧ E f r t b i = k) ∨ (E f r t b n < k ∧ (k - E f r t b n) % r = 0) := by
  constructor
  · rintro ⟨i, rfl⟩
    by_cases c : i ≤ n
    · exact .inl ⟨E_mono o c, i, c, rfl⟩
    · have h1 := (E_strict o).mpr (show n < i by omega)
      exact .inr ⟨h1, (top_end o R.top (by omega)).mpr ⟨i, rfl⟩⟩
  · rintro (⟨_, i, _, e⟩ | ⟨h1, h2⟩)
    · exact ⟨i, e⟩
    · exact (top_end o R.top (by omega)).mp h2
end
/-- the first end of the one that is none of the other -/
structure Miss (f r t b f' r' t' b' : Int) (i : Nat) : Prop where
  no : ¬ End f' r' t' b' (E f r t b i)
  yes : ∀ j, j < i → End f' r' t' b' (E f r t b j)
theorem Miss.uniq {f r t b f' r' t' b' : Int} {i j : Nat} (a : Miss f r t b f' r' t' b' i) (c : Miss f r t b f' r' t' b' j) : i = j := by
  by_cases h1 : i < j
  · exact absurd (c.yes i h1) a.no
  · by_cases h2 : j < i
    · exact absurd (a.yes j h2) c.no
    · omega
/-! ### all by a factor -/
section
variable {f r t c : Int} (o : Ok f r t 1) (hc : 1 ≤ c)
include o hc
theorem sc_part (h : Int) : part t 1 (c * h) = c * part t 1 h := by
  unfold part
  rw [Int.ediv_one, Int.ediv_one]
  have e1 : -(c * h) * t = c * (-h * t) := by rw [← Int.mul_neg, Int.mul_assoc]
  rw [e1]
  exact (Int.mul_neg _ _).symm
theorem sc_lt (x y : Int) : c * x < c * y ↔ x < y := Int.mul_lt_mul_left (by omega)
theorem sc_step (h : Int) : step (c * f) (c * r) t 1 (c * h) = c * step f r t 1 h := by
  unfold step
  rw [sc_part o hc]
  by_cases c1 : part t 1 h < f
  · rw [if_pos c1, if_pos ((sc_lt o hc _ _).mpr c1)]
  · rw [if_neg c1, if_neg (fun z => c1 ((sc_lt o hc _ _).mp z))]
    by_cases c2 : part t 1 h < r
    · rw [if_pos c2, if_pos ((sc_lt o hc _ _).mpr c2)]
    · rw [if_neg c2, if_neg (fun z => c2 ((sc_lt o hc _ _).mp z))]
theorem sc_E : ∀ n : Nat, E (c * f) (c * r) t 1 n = c * E f r t 1 n
  | 0 => by show (0 : Int) = c * 0; simp
  | n + 1 => by
    show E (c * f) (c * r) t 1 n + step (c * f) (c * r) t 1 (E (c * f) (c * r) t 1 n) = c * (E f r t 1 n + step f r t 1 (E f r t 1 n))
    rw [sc_E n, sc_step o hc, Int.mul_add]
theorem sc_ok (hr : c * r ≤ 10 ^ 30) : Ok (c * f) (c * r) t 1 := by
  refine ⟨?_, Int.mul_le_mul_of_nonneg_left o.fr (by omega), hr, o.t1, o.t2, by decide, by decide⟩
  have := Int.mul_le_mul_of_nonneg_left (c := c) o.f1 (by omega)
  omega
theorem sc_end (k : Int) : End (c * f) (c * r) t 1 k ↔ k % c = 0 ∧ End f r t 1 (k / c) := by
  constructor
  · rintro ⟨i, rfl⟩
    rw [sc_E o hc]
    refine ⟨Int.mul_emod_right _ _, i, ?_⟩
    rw [Int.mul_ediv_cancel_left _ (by omega)]
  · rintro ⟨h1, i, h2⟩
    refine ⟨i, ?_⟩
    rw [sc_E o hc, h2]
    have := Int.mul_ediv_add_emod k c
    omega
theorem sc_end' (k : Int) : End (c * f) (c * r) t 1 (c * k) ↔ End f r t 1 k := by
  rw [sc_end o hc, Int.mul_emod_right, Int.mul_ediv_cancel_left _ (by omega)]
  exact ⟨fun h => h.2, fun h => ⟨rfl, h⟩⟩
theorem sc_G (k : Int) : G (c * f) (c * r) t 1 k = G f r t 1 ((k + c - 1) / c) := by
  refine G_uniq o fun i => ?_
  by_cases hr : True
  · have g : ∀ i, E (c * f) (c * r) t 1 i < k ↔ E f r t 1 i < (k + c - 1) / c := fun i => by
      rw [sc_E o hc]
      have h1 : E f r t 1 i + 1 ≤ (k + c - 1) / c ↔ (E f r t 1 i + 1) * c ≤ k + c - 1 := Int.le_ediv_iff_mul_le (by omega)
      rw [Int.add_mul, Int.one_mul, Int.mul_comm] at h1
      constructor
      · intro z; have := h1.mpr (by omega); omega
      · intro z; have := h1.mp (by omega); omega
    have h : ∃ g : Nat, ∀ i, E (c * f) (c * r) t 1 i < k ↔ i < g := ⟨G f r t 1 ((k + c - 1) / c), fun i => (g i).trans (G_spec o _ i)⟩
    rw [← g i]
    unfold G
    rw [dif_pos h]
    exact h.choose_spec i
  · exact absurd trivial hr
theorem sc_G' (k : Int) : G (c * f) (c * r) t 1 (k * c) = G f r t 1 k := by
  rw [sc_G o hc]
  have : (k * c + c - 1) / c = k := by
    have e : k * c + c - 1 = (c - 1) + k * c := by omega
    rw [e, Int.add_mul_ediv_right _ _ (by omega), Int.ediv_eq_zero_of_lt (by omega) (by omega)]
    omega
  rw [this]
end
theorem sc_miss {f r t f' r' t' c : Int} (o : Ok f r t 1) (o' : Ok f' r' t' 1) (hc : 1 ≤ c) (i : Nat) : Miss (c * f) (c * r) t 1 (c * f') (c * r') t' 1 i ↔ Miss f r t 1 f' r' t' 1 i := by
  constructor
  · rintro ⟨h1, h2⟩
    refine ⟨fun z => h1 ?_, fun j hj => ?_⟩
    · rw [sc_E o hc]; exact (sc_end' o' hc _).mpr z
    · have := h2 j hj
      rw [sc_E o hc] at this
      exact (sc_end' o' hc _).mp this
  · rintro ⟨h1, h2⟩
    refine ⟨fun z => h1 ?_, fun j hj => ?_⟩
    · rw [sc_E o hc] at z; exact (sc_end' o' hc _).mp z
    · rw [sc_E o hc]; exact (sc_end' o' hc _).mpr (h2 j hj)
end GB

namespace GB
/-- nowhere more -/
def Le (f r t b f' r' t' b' : Int) : Prop := ∀ k, 0 ≤ k → step f r t b k ≤ step f' r' t' b' k
def last (r t b : Int) : Int := (r - 1) * b / t + 1
theorem part_le {t b k m : Int} (hb : 0 < b) : part t b k ≤ m ↔ k * t ≤ m * b := by
  unfold part
  have e : -m ≤ -k * t / b ↔ -m * b ≤ -k * t := Int.le_ediv_iff_mul_le hb
  rw [Int.neg_mul, Int.neg_mul] at e
  rw [Int.neg_mul]
  constructor
  · intro h; have := e.mp (by omega); omega
  · intro h; have := e.mpr (by omega); omega
theorem lt_last {r t b k : Int} (ht : 0 < t) (hb : 0 < b) : k < last r t b ↔ part t b k ≤ r - 1 := by
  unfold last
  rw [part_le hb, ← Int.le_ediv_iff_mul_le ht]
  omega
theorem part_shift {t b k c : Int} (hb : 0 < b) : part t b (k + b * c) = part t b k + t * c := by
  unfold part
  have e : -(k + b * c) * t = -k * t + b * (-(t * c)) := by
    rw [Int.neg_add, Int.add_mul, Int.mul_neg, Int.neg_mul (b * c), Int.mul_assoc b c t, Int.mul_comm c t]
  rw [e, Int.add_mul_ediv_left _ _ (by omega)]
  omega
theorem part_flat {t b t' b' k : Int} (hb : 0 < b) (hb' : 0 < b') (h : t * b' ≤ t' * b) (hk : 0 ≤ k) : part t b k ≤ part t' b' k := by
  rw [part_le hb]
  have h1 : k * t' ≤ part t' b' k * b' := part_up hb'
  have h2 : k * (t * b') ≤ k * (t' * b) := Int.mul_le_mul_of_nonneg_left h hk
  have h3 : k * t' * b ≤ part t' b' k * b' * b := Int.mul_le_mul_of_nonneg_right h1 (by omega)
  have e1 : k * (t * b') = k * t * b' := (Int.mul_assoc ..).symm
  have e2 : k * (t' * b) = k * t' * b := (Int.mul_assoc ..).symm
  have e3 : part t' b' k * b' * b = part t' b' k * b * b' := by rw [Int.mul_assoc, Int.mul_comm b' b, ← Int.mul_assoc]
  exact Int.le_of_mul_le_mul_right (a := b') (by omega) hb'
section
variable {f r t b f' r' t' b' : Int} (o : Ok f r t b) (o' : Ok f' r' t' b')
include o o'
theorem le_f (h : Le f r t b f' r' t' b') : f ≤ f' := by
  have := h 0 (Int.le_refl 0)
  rwa [step_zero o, step_zero o'] at this
theorem last_pos : 1 ≤ last r t b := by
  unfold last
  obtain ⟨f1, fr, r1, t1, t2, b1, b2⟩ := o
  have : 0 ≤ (r - 1) * b / t := Int.ediv_nonneg (Int.mul_nonneg (by omega) (by omega)) (by omega)
  omega
theorem step_last {k : Int} (h : last r t b ≤ k) : step f r t b k = r := by
  obtain ⟨f1, fr, r1, t1, t2, b1, b2⟩ := o
  have z : ¬ part t b k ≤ r - 1 := fun z => by
    have := (lt_last (by omega) (by omega)).mpr z
    omega
  unfold step
  split
  · omega
  · split <;> omega
theorem le_r (h : Le f r t b f' r' t' b') : r ≤ r' := by
  have h1 := h (last r t b) (by have := last_pos o o'; omega)
  rw [step_last o o' (Int.le_refl _)] at h1
  exact Int.le_trans h1 (step_le o' _)
theorem le_flat (hf : f ≤ f') (hr : r ≤ r') (h : t * b' ≤ t' * b) : Le f r t b f' r' t' b' := fun k hk => by
  have p := part_flat (k := k) (show 0 < b by have := o.b1; omega) (show 0 < b' by have := o'.b1; omega) h hk
  have := o.fr; have := o'.fr
  unfold step
  generalize part t b k = P at *
  generalize part t' b' k = P' at *
  repeat' split
  all_goals omega
theorem le_const (hf : f ≤ f') (h : f = r) : Le f r t b f' r' t' b' := fun k hk => by
  have h1 := step_le o k
  have h2 := step_ge o' k
  omega
/-- a hold where it gives more -/
def Vi (f r t b f' r' t' b' k : Int) : Prop := step f' r' t' b' k < step f r t b k
omit o o' in
theorem not_le : ¬ Le f r t b f' r' t' b' ↔ ∃ k, 0 ≤ k ∧ Vi f r t b f' r' t' b' k := by
  unfold Le Vi
  constructor
  · intro h
    apply Classical.byContradiction
    intro z
    exact h fun k hk => by
      apply Classical.byContradiction
      intro y
      exact z ⟨k, hk, by omega⟩
  · rintro ⟨k, hk, v⟩ h
    have := h k hk
    omega
theorem vi_shift (hf : f ≤ f') (hr : r ≤ r') (hs : t' * b < t * b') {k : Int} (h : k + b * b' < last r t b) (v : Vi f r t b f' r' t' b' k) : Vi f r t b f' r' t' b' (k + b * b') := by
  have tp := o.t1; have bp := o.b1; have bp' := o'.b1
  have h1 := (lt_last (r := r) (k := k + b * b') (show 0 < t by omega) (show 0 < b by omega)).mp h
  have e1 : part t b (k + b * b') = part t b k + t * b' := part_shift (by omega)
  have e2 : part t' b' (k + b * b') = part t' b' k + t' * b := by rw [Int.mul_comm b b']; exact part_shift (by omega)
  have fr := o.fr; have fr' := o'.fr
  have p0 : 0 ≤ t * b' := Int.mul_nonneg (by omega) (by omega)
  unfold Vi step at *
  rw [e1, e2]
  rw [e1] at h1
  generalize part t b k = P at *
  generalize part t' b' k = P' at *
  generalize t * b' = A at *
  generalize t' * b = B at *
  repeat' split
  all_goals (repeat' split at v)
  all_goals omega
theorem vi_window (hf : f ≤ f') (hr : r ≤ r') (hs : t' * b < t * b') : ∀ (n : Nat) (k : Int), (last r t b - k).toNat ≤ n → 0 ≤ k → k < last r t b → Vi f r t b f' r' t' b' k → ∃ k', 0 ≤ k' ∧ last r t b - b * b' ≤ k' ∧ k' ≤ last r t b ∧ Vi f r t b f' r' t' b' k'
  | 0, k, hn, hk, hl, v => by omega
  | n + 1, k, hn, hk, hl, v => by
    have bp := o.b1; have bp' := o'.b1
    have p1 : 1 ≤ b * b' := by
      have := Int.mul_le_mul bp bp' (by omega) (by omega)
      omega
    by_cases c : last r t b - b * b' ≤ k
    · exact ⟨k, hk, c, by omega, v⟩
    · exact vi_window hf hr hs n (k + b * b') (by omega) (by omega) (by omega) (vi_shift o o' hf hr hs (by omega) v)
/-- what a hold beyond the last one tells -/
theorem vi_beyond {k : Int} (h : last r t b ≤ k) (v : Vi f r t b f' r' t' b' k) : Vi f r t b f' r' t' b' (last r t b) := by
  unfold Vi at *
  rw [step_last o o' h] at v
  rw [step_last o o' (Int.le_refl _)]
  have := step_mono o' h
  omega
theorem le_iff_window (hf : f ≤ f') (hr : r ≤ r') (hs : t' * b < t * b') (beg : Int) (hb : beg = if last r t b - b * b' < 0 then 0 else last r t b - b * b') :
    Le f r t b f' r' t' b' ↔ ∀ k, beg ≤ k → k ≤ last r t b → step f r t b k ≤ step f' r' t' b' k := by
  have b0 : 0 ≤ beg := by rw [hb]; split <;> omega
  have lp := last_pos o o'
  have bp := o.b1; have bp' := o'.b1
  have p1 : 1 ≤ b * b' := by
    have := Int.mul_le_mul bp bp' (by omega) (by omega)
    omega
  constructor
  · intro h k h1 _; exact h k (by omega)
  · intro h
    apply Classical.byContradiction
    intro z
    obtain ⟨k, hk, v⟩ := not_le.mp z
    have : ∃ k', beg ≤ k' ∧ k' ≤ last r t b ∧ Vi f r t b f' r' t' b' k' := by
      by_cases c : k < last r t b
      · obtain ⟨k', a1, a2, a3, a4⟩ := vi_window o o' hf hr hs _ k (Nat.le_refl _) hk c v
        exact ⟨k', by rw [hb]; split <;> omega, a3, a4⟩
      · exact ⟨last r t b, by rw [hb]; split <;> omega, Int.le_refl _, vi_beyond o o' (by omega) v⟩
    obtain ⟨k', a1, a2, a3⟩ := this
    have := h k' a1 a2
    unfold Vi at a3
    omega
theorem le_iff_small (hl : last r t b < 130) : Le f r t b f' r' t' b' ↔ ∀ k, 0 ≤ k → k < 130 → step f r t b k ≤ step f' r' t' b' k := by
  constructor
  · intro h k hk _; exact h k hk
  · intro h
    apply Classical.byContradiction
    intro z
    obtain ⟨k, hk, v⟩ := not_le.mp z
    by_cases c : k < last r t b
    · have := h k hk (by omega)
      unfold Vi at v; omega
    · have v' := vi_beyond o o' (by omega) v
      have := h _ (by have := last_pos o o'; omega) hl
      unfold Vi at v'; omega
theorem le_same (ht : t' = t) (hb : b' = b) : Le f r t b f' r' t' b' ↔ f ≤ f' ∧ r ≤ r' := by
  constructor
  · exact fun h => ⟨le_f o o' h, le_r o o' h⟩
  · rintro ⟨h1, h2⟩
    exact le_flat o o' h1 h2 (by rw [ht, hb]; exact Int.le_refl _)
/-- great roofs, the first steeper -/
theorem not_le_great (hs : t' * b < t * b') (hr : r = r') (h9 : f * 9 < r ∧ f' * 9 < r) (hg : 10 ^ 9 ≤ r) : ¬ Le f r t b f' r' t' b' := by
  obtain ⟨f1, fr, r1, t1, t2, b1, b2⟩ := o
  obtain ⟨f1', fr', r1', t1', t2', b1', b2'⟩ := o'
  have e9 : (10 : Int) ^ 9 = 1000000000 := by decide
  rw [e9] at hg
  rw [not_le]
  generalize hk : (r - 1) * b / t = k
  have k1 : k * t ≤ (r - 1) * b := by rw [← hk]; exact Int.ediv_mul_le _ (by omega)
  have k2 : (r - 1) * b < k * t + t := by
    have := Int.lt_ediv_add_one_mul_self ((r - 1) * b) (show 0 < t by omega)
    rw [hk, Int.add_mul, Int.one_mul] at this
    exact this
  have kb : 10000 ≤ k := by
    have x1 : (r - 1) * 1 ≤ (r - 1) * b := Int.mul_le_mul_of_nonneg_left b1 (by omega)
    rcases Int.lt_or_le k 10000 with c | c
    · have : k * t ≤ 10000 * 100 := by
        rcases Int.lt_or_le k 0 with c0 | c0
        · have := Int.mul_le_mul_of_nonneg_right (c := t) (show k ≤ 0 by omega) (by omega)
          omega
        · exact Int.mul_le_mul (by omega) t2 (by omega) (by omega)
      omega
    · exact c
  refine ⟨k, by omega, ?_⟩
  have p1 : part t b k ≤ r - 1 := (part_le (by omega)).mpr k1
  have p2 : r - 101 ≤ part t b k := by
    rcases Int.lt_or_le (part t b k) (r - 101) with c | c
    · have : part t b k ≤ r - 102 := by omega
      have q1 := (part_le (show 0 < b by omega)).mp this
      have e1 : (r - 102) * b = (r - 1) * b - 101 * b := by rw [← Int.sub_mul]; congr 1; omega
      omega
    · exact c
  have p3 : part t' b' k < part t b k := by
    rcases Int.lt_or_le (part t' b' k) (part t b k) with c | c
    · exact c
    · exfalso
      have bb : b * b' ≤ 100 * 100 := Int.mul_le_mul b2 b2' (by omega) (by omega)
      -- k - b * b' >= 0, shift by b b'
      have e1 : part t b (k - b * b' + b * b') = part t b (k - b * b') + t * b' := part_shift (by omega)
      have e2 : part t' b' (k - b * b' + b' * b) = part t' b' (k - b * b') + t' * b := part_shift (by omega)
      rw [Int.mul_comm b' b] at e2
      rw [Int.sub_add_cancel] at e1 e2
      have fl : part t' b' (k - b * b') ≤ part t b (k - b * b') := part_flat (by omega) (by omega) (Int.le_of_lt hs) (by omega)
      omega
  unfold Vi step
  generalize part t b k = P at *
  generalize part t' b' k = P' at *
  clear k1 k2 kb hk
  repeat' split
  all_goals omega
end
theorem ceil_law (k t b : Int) (hb : 0 < b) : (if k * t / b * b < k * t then k * t / b + 1 else k * t / b) = part t b k := by
  have h1 := Int.mul_ediv_add_emod (k * t) b
  have h2 := Int.emod_nonneg (k * t) (Int.ne_of_gt hb)
  have h3 := Int.emod_lt_of_pos (k * t) hb
  have a1 := (part_le (t := t) (k := k) (m := part t b k) hb).mp (Int.le_refl _)
  have a2 : ¬ k * t ≤ (part t b k - 1) * b := fun z => by
    have := (part_le (t := t) (k := k) (m := part t b k - 1) hb).mpr z
    omega
  rw [Int.sub_mul, Int.one_mul] at a2
  rw [Int.mul_comm b] at h1
  generalize part t b k = P at *
  generalize k * t / b = A at *
  generalize k * t = m at *
  split
  · -- m = A b + s, 0 < s < b ; P b >= m > (P-1) b
    have c1 : A < P := by
      rcases Int.lt_or_le A P with c | c
      · exact c
      · have := Int.mul_le_mul_of_nonneg_right (c := b) c (by omega)
        omega
    have c2 : P < A + 2 := by
      rcases Int.lt_or_le P (A + 2) with c | c
      · exact c
      · have := Int.mul_le_mul_of_nonneg_right (c := b) c (by omega)
        rw [Int.add_mul] at this
        omega
    omega
  · have c1 : A < P + 1 := by
      rcases Int.lt_or_le A (P + 1) with c | c
      · exact c
      · have := Int.mul_le_mul_of_nonneg_right (c := b) c (by omega)
        rw [Int.add_mul] at this
        omega
    have c2 : P < A + 1 := by
      rcases Int.lt_or_le P (A + 1) with c | c
      · exact c
      · have := Int.mul_le_mul_of_nonneg_right (c := b) c (by omega)
        rw [Int.add_mul] at this
        omega
    omega
end GB

set_option maxHeartbeats 4000000
namespace TL
open PySem L2
def topS (i : Nat) : Stmt := PySem.Challenge.pw_grownfiles_k09_books_compared.main.body.getD i (.Pass ⟨0, 0, 0, 0⟩)
abbrev s_is_integer : Stmt := topS 8
abbrev N_is_integer : List Str := ["thing", "least", "most"]
abbrev s_is_share : Stmt := topS 12
abbrev N_is_share : List Str := ["thing"]
abbrev s_part_of : Stmt := topS 13
abbrev N_part_of : List Str := ["share", "hold", "top", "bottom"]
abbrev s_least_hold : Stmt := topS 14
abbrev N_least_hold : List Str := ["share", "many", "top", "bottom"]
abbrev s_check_parts : Stmt := topS 15
abbrev N_check_parts : List Str := ["first", "roof", "share", "ahead"]
abbrev s_Book___init__ : Stmt := inClass (topS 16) 0
abbrev N_Book___init__ : List Str := ["self", "first", "roof", "share"]
abbrev s_Book_parts : Stmt := inClass (topS 16) 13
abbrev N_Book_parts : List Str := ["self"]
abbrev s_Book___eq__ : Stmt := inClass (topS 16) 15
abbrev N_Book___eq__ : List Str := ["self", "other"]
abbrev s_Book___le__ : Stmt := inClass (topS 16) 16
abbrev N_Book___le__ : List Str := ["self", "other"]
abbrev s_step_of : Stmt := topS 17
abbrev N_step_of : List Str := ["parts", "hold", "first", "roof", "share", "many"]
abbrev s_is_never_more : Stmt := topS 18
abbrev N_is_never_more : List Str := ["ours", "theirs", "top", "bottom", "other_top", "other_bottom", "last", "begin", "hold"]
abbrev s_law_hand : Stmt := topS 20
abbrev N_law_hand : List Str := ["_law_script", "_law_k", "_law_cell", "_law_seed"]
abbrev s_law_draw : Stmt := topS 21
abbrev N_law_draw : List Str := ["_law_pool", "_law_many", "_law_found"]
abbrev s_law_book : Stmt := topS 22
abbrev N_law_book : List Str := ["_law_pool", "_law_low", "_law_high", "_law_top", "_law_bottom"]
abbrev s_law_made : Stmt := topS 23
abbrev N_law_made : List Str := ["_law_parts_here"]
abbrev s_law_step : Stmt := topS 24
abbrev N_law_step : List Str := ["_law_parts_here", "_law_hold", "_law_low", "_law_high", "_law_part", "_law_many"]
abbrev s_law_small : Stmt := topS 25
abbrev N_law_small : List Str := ["_law_pool", "_law_low", "_law_high"]
abbrev s_law_due : Stmt := topS 26
abbrev N_law_due : List Str := ["_law_ours", "_law_theirs", "_law_hold"]
abbrev s_law_wide_right : Stmt := topS 27
abbrev N_law_wide_right : List Str := ["_law_ours", "_law_theirs", "_law_last", "_law_holds", "_law_j", "_law_found", "_law_hold", "_law_is_steeper"]
abbrev s_law : Stmt := topS 28
abbrev N_law : List Str := ["_law_script", "_law_k", "_law_pool", "_law_turn", "_law_ours", "_law_theirs", "_law_found", "_law_great", "_law_greater", "_law_due_here", "_law_wide"]
abbrev si_InvalidBook : Stmt := inClass (topS 3) 0
structure Ad where
  f_is_integer : Addr
  d_is_integer : FuncData
  f_is_share : Addr
  d_is_share : FuncData
  f_part_of : Addr
  d_part_of : FuncData
  f_least_hold : Addr
  d_least_hold : FuncData
  f_check_parts : Addr
  d_check_parts : FuncData
  f_Book___init__ : Addr
  d_Book___init__ : FuncData
  f_Book_parts : Addr
  d_Book_parts : FuncData
  f_Book___eq__ : Addr
  d_Book___eq__ : FuncData
  f_Book___le__ : Addr
  d_Book___le__ : FuncData
  f_step_of : Addr
  d_step_of : FuncData
  f_is_never_more : Addr
  d_is_never_more : FuncData
  f_law_hand : Addr
  d_law_hand : FuncData
  f_law_draw : Addr
  d_law_draw : FuncData
  f_law_book : Addr
  d_law_book : FuncData
  f_law_made : Addr
  d_law_made : FuncData
  f_law_step : Addr
  d_law_step : FuncData
  f_law_small : Addr
  d_law_small : FuncData
  f_law_due : Addr
  d_law_due : FuncData
  f_law_wide_right : Addr
  d_law_wide_right : FuncData
  f_law : Addr
  d_law : FuncData
  c_InvalidBook : Addr
  c_GrowError : Addr
  c_Book : Addr
  i_InvalidBook : Addr
  e_InvalidBook : FuncData
structure Tx (K : PySem.W.Frag) (mg : Str → Option Value) (a : Ad) : Prop where
  F_is_integer : Fun K "is_integer" "is_integer" s_is_integer a.f_is_integer a.d_is_integer
  b_is_integer : Binds K a.d_is_integer ["thing", "least", "most"] []
  g_is_integer : mg "is_integer" = some (.ref a.f_is_integer)
  F_is_share : Fun K "is_share" "is_share" s_is_share a.f_is_share a.d_is_share
  b_is_share : Binds K a.d_is_share ["thing"] []
  g_is_share : mg "is_share" = some (.ref a.f_is_share)
  F_part_of : Fun K "part_of" "part_of" s_part_of a.f_part_of a.d_part_of
  b_part_of : Binds K a.d_part_of ["share", "hold"] []
  g_part_of : mg "part_of" = some (.ref a.f_part_of)
  F_least_hold : Fun K "least_hold" "least_hold" s_least_hold a.f_least_hold a.d_least_hold
  b_least_hold : Binds K a.d_least_hold ["share", "many"] []
  g_least_hold : mg "least_hold" = some (.ref a.f_least_hold)
  F_check_parts : Fun K "check_parts" "check_parts" s_check_parts a.f_check_parts a.d_check_parts
  b_check_parts : Binds K a.d_check_parts ["first", "roof", "share", "ahead"] []
  g_check_parts : mg "check_parts" = some (.ref a.f_check_parts)
  F_Book___init__ : Fun K "__init__" "Book.__init__" s_Book___init__ a.f_Book___init__ a.d_Book___init__
  kb0_Book___init__ : KBt K a.d_Book___init__ ["self", "first", "roof", "share"] 3 ["share"] (fun ts zs => match ts, zs with | [x0, x1, x2], [k0] => [x0, x1, x2, k0] | _, _ => [])
  me_Book___init__ : Meth K a.c_Book "__init__" a.f_Book___init__
  F_Book_parts : Fun K "parts" "Book.parts" s_Book_parts a.f_Book_parts a.d_Book_parts
  b_Book_parts : Binds K a.d_Book_parts ["self"] []
  me_Book_parts : Meth K a.c_Book "parts" a.f_Book_parts
  F_Book___eq__ : Fun K "__eq__" "Book.__eq__" s_Book___eq__ a.f_Book___eq__ a.d_Book___eq__
  b_Book___eq__ : Binds K a.d_Book___eq__ ["self", "other"] []
  me_Book___eq__ : Meth K a.c_Book "__eq__" a.f_Book___eq__
  F_Book___le__ : Fun K "__le__" "Book.__le__" s_Book___le__ a.f_Book___le__ a.d_Book___le__
  b_Book___le__ : Binds K a.d_Book___le__ ["self", "other"] []
  me_Book___le__ : Meth K a.c_Book "__le__" a.f_Book___le__
  F_step_of : Fun K "step_of" "step_of" s_step_of a.f_step_of a.d_step_of
  b_step_of : Binds K a.d_step_of ["parts", "hold"] []
  g_step_of : mg "step_of" = some (.ref a.f_step_of)
  F_is_never_more : Fun K "is_never_more" "is_never_more" s_is_never_more a.f_is_never_more a.d_is_never_more
  b_is_never_more : Binds K a.d_is_never_more ["ours", "theirs"] []
  g_is_never_more : mg "is_never_more" = some (.ref a.f_is_never_more)
  F_law_hand : Fun K "_law_hand" "_law_hand" s_law_hand a.f_law_hand a.d_law_hand
  b_law_hand : Binds K a.d_law_hand ["_law_script", "_law_k"] []
  g_law_hand : mg "_law_hand" = some (.ref a.f_law_hand)
  F_law_draw : Fun K "_law_draw" "_law_draw" s_law_draw a.f_law_draw a.d_law_draw
  b_law_draw : Binds K a.d_law_draw ["_law_pool", "_law_many"] []
  g_law_draw : mg "_law_draw" = some (.ref a.f_law_draw)
  F_law_book : Fun K "_law_book" "_law_book" s_law_book a.f_law_book a.d_law_book
  b_law_book : Binds K a.d_law_book ["_law_pool"] []
  g_law_book : mg "_law_book" = some (.ref a.f_law_book)
  F_law_made : Fun K "_law_made" "_law_made" s_law_made a.f_law_made a.d_law_made
  b_law_made : Binds K a.d_law_made ["_law_parts_here"] []
  g_law_made : mg "_law_made" = some (.ref a.f_law_made)
  F_law_step : Fun K "_law_step" "_law_step" s_law_step a.f_law_step a.d_law_step
  b_law_step : Binds K a.d_law_step ["_law_parts_here", "_law_hold"] []
  g_law_step : mg "_law_step" = some (.ref a.f_law_step)
  F_law_small : Fun K "_law_small" "_law_small" s_law_small a.f_law_small a.d_law_small
  b_law_small : Binds K a.d_law_small ["_law_pool"] []
  g_law_small : mg "_law_small" = some (.ref a.f_law_small)
  F_law_due : Fun K "_law_due" "_law_due" s_law_due a.f_law_due a.d_law_due
  b_law_due : Binds K a.d_law_due ["_law_ours", "_law_theirs"] []
  g_law_due : mg "_law_due" = some (.ref a.f_law_due)
  F_law_wide_right : Fun K "_law_wide_right" "_law_wide_right" s_law_wide_right a.f_law_wide_right a.d_law_wide_right
  b_law_wide_right : Binds K a.d_law_wide_right ["_law_ours", "_law_theirs"] []
  g_law_wide_right : mg "_law_wide_right" = some (.ref a.f_law_wide_right)
  F_law : Fun K "law" "law" s_law a.f_law a.d_law
  b_law : Binds K a.d_law ["_law_script"] []
  g_law : mg "law" = some (.ref a.f_law)
  cl_Book : Cls K a.c_Book
  mk_Book : Mk K a.c_Book a.f_Book___init__
  kn_Book : ∀ k : Kd, PySem.W.kitOne K (.type k.nm) (.ref a.c_Book) = some false
  ki_Book_Book : PySem.W.kitOne K (.ref a.c_Book) (.ref a.c_Book) = some true
  ty_Book : TyC K a.c_Book
  na_Book_own_share : NoAttr K a.c_Book "own_share"
  na_Book_own_roof : NoAttr K a.c_Book "own_roof"
  na_Book_own_first : NoAttr K a.c_Book "own_first"
  g_InvalidBook : mg "InvalidBook" = some (.ref a.c_InvalidBook)
  g_GrowError : mg "GrowError" = some (.ref a.c_GrowError)
  g_Book : mg "Book" = some (.ref a.c_Book)
  o_InvalidBook : OexC K a.c_InvalidBook
  i_InvalidBook : PySem.W.findIn K (.ref a.c_InvalidBook) "__init__" = some (some (.ref a.i_InvalidBook))
  t_InvalidBook : PySem.W.typeIn K (.ref a.i_InvalidBook) = some (.type "function")
  n_InvalidBook : PySem.W.findIn K (.ref a.c_InvalidBook) "part" = some none
  FI_InvalidBook : Fun K "__init__" "InvalidBook.__init__" si_InvalidBook a.i_InvalidBook a.e_InvalidBook
  BI_InvalidBook : Binds K a.e_InvalidBook ["self", "part"] []
  x_InvalidBook : XfC K a.c_InvalidBook
  q_InvalidBook : ExcC K a.c_InvalidBook
  z_bool : mg "bool" = none
  z_int : mg "int" = none
  z_isinstance : mg "isinstance" = none
  z_len : mg "len" = none
  z_max : mg "max" = none
  z_min : mg "min" = none
  z_range : mg "range" = none
  z_tuple : mg "tuple" = none
  c_MOST_GROWTH : ∃ t : Tok, mg "MOST_GROWTH" = some (.int 1000000000000000000000000000000 t)
  c_MOST_SHARE : ∃ t : Tok, mg "MOST_SHARE" = some (.int 100 t)
def isInt (x : T) (a b : Int) : Bool := match x with
  | .int i => decide (a ≤ i) && decide (i ≤ b)
  | _ => false
def shT (t b : Int) : T := .tup [.int t, .int b]
def ptT (f r t b : Int) : T := .tup [.int f, .int r, shT t b]
def bkF (f r t b : Int) : List (Str × T) := [("own_first", .int f), ("own_roof", .int r), ("own_share", shT t b)]
def Bk (a : Ad) (h : Hq) (x : T) (f r t b : Int) : Prop := insOf h x = some (a.c_Book, bkF f r t b)
def bk (a : Ad) (f r t b : Int) : T := .ins a.c_Book (bkF f r t b)
def C_is_integer : Con := fun ts h Q _ => ∃ x a b k, ts = [x, .int a, .int b] ∧ kdOf h x = some k ∧ Q (.bl (isInt x a b)) h
def C_part_of : Con := fun ts h Q _ => ∃ t b k, ts = [shT t b, .int k] ∧ 1 ≤ t ∧ t ≤ 100 ∧ 1 ≤ b ∧ b ≤ 100 ∧ Q (.int (GB.part t b k)) h
def C_is_share : Con := fun ts h Q _ => ∃ t b, ts = [shT t b] ∧ 1 ≤ t ∧ t ≤ 100 ∧ 1 ≤ b ∧ b ≤ 100 ∧ Q (.bl true) h
def C_check_parts : Con := fun ts h Q _ => ∃ f r t b x, ts = [.int f, .int r, shT t b, x] ∧ GB.Ok f r t b ∧ Q .non h
def C_Book___init__ (a : Ad) : Con := fun ts h Q _ => ∃ p f r t b, ts = [.ref p, .int f, .int r, shT t b] ∧ GB.Ok f r t b ∧ h p = some (.ins a.c_Book []) ∧ Q .non (put h p (.ins a.c_Book (bkF f r t b)))
def C_law_step : Con := fun ts h Q _ => ∃ f r t b k, ts = [ptT f r t b, .int k] ∧ GB.Ok f r t b ∧ Q (.int (GB.step f r t b k)) h
def C_law : Con := fun ts h Q _ => ∃ ns : List Int, ts = [.scr ns] ∧ ns.length ≤ 63 ∧ ∀ h', Q (.bl true) h'
def C_least_hold : Con := fun ts h Q _ => ∃ t b m, ts = [shT t b, .int m] ∧ 1 ≤ t ∧ t ≤ 100 ∧ 1 ≤ b ∧ b ≤ 100 ∧ Q (.int (GB.last m t b)) h
def C_Book_parts (a : Ad) : Con := fun ts h Q _ => ∃ x f r t b, ts = [x] ∧ Bk a h x f r t b ∧ Q (ptT f r t b) h
def C_Book___eq__ (a : Ad) : Con := fun ts h Q _ => ∃ x y f r t b f' r' t' b', ts = [x, y] ∧ Bk a h x f r t b ∧ Bk a h y f' r' t' b' ∧ Q (.bl (eqT (ptT f r t b) (ptT f' r' t' b'))) h
def C_Book___le__ (a : Ad) : Con := fun ts h Q _ => ∃ x y f r t b f' r' t' b', ts = [x, y] ∧ Bk a h x f r t b ∧ Bk a h y f' r' t' b' ∧ GB.Ok f r t b ∧ GB.Ok f' r' t' b' ∧ ∀ v : Bool, (v = true ↔ GB.Le f r t b f' r' t' b') → Q (.bl v) h
def C_step_of : Con := fun ts h Q _ => ∃ f r t b k, ts = [ptT f r t b, .int k] ∧ GB.Ok f r t b ∧ Q (.int (GB.step f r t b k)) h
def C_is_never_more : Con := fun ts h Q _ => ∃ f r t b f' r' t' b', ts = [ptT f r t b, ptT f' r' t' b'] ∧ GB.Ok f r t b ∧ GB.Ok f' r' t' b' ∧ f ≤ f' ∧ r ≤ r' ∧ ∀ v : Bool, (v = true ↔ GB.Le f r t b f' r' t' b') → Q (.bl v) h
def C_law_draws : Con := fun ts h Q _ => ∃ p, ts = [.ref p] ∧ h p = some .pool ∧ ∀ f r t b, GB.Ok f r t b → Q (ptT f r t b) h
def C_law_made (a : Ad) : Con := fun ts h Q _ => ∃ f r t b, ts = [ptT f r t b] ∧ GB.Ok f r t b ∧ ∀ p, h p = none → Q (.ref p) (put h p (.ins a.c_Book (bkF f r t b)))
def C_law_small : Con := fun ts h Q _ => ∃ p, ts = [.ref p] ∧ h p = some .pool ∧ ∀ f r t b, GB.Ok f r t b → r ≤ 13 → b ≤ 9 → Q (ptT f r t b) h
def C_law_due : Con := fun ts h Q _ => ∃ f r t b f' r' t' b', ts = [ptT f r t b, ptT f' r' t' b'] ∧ GB.Ok f r t b ∧ GB.Ok f' r' t' b' ∧ ∀ v : Bool, (v = true ↔ ∀ k, 0 ≤ k → k < 130 → GB.step f r t b k ≤ GB.step f' r' t' b' k) → Q (.bl v) h
def C_law_wide_right : Con := fun ts h Q _ => ∃ f r t b f' r' t' b', ts = [ptT f r t b, ptT f' r' t' b'] ∧ GB.Ok f r t b ∧ GB.Ok f' r' t' b' ∧ Q (.bl true) h
def B_is_integer : SM :=
    (sRet (eAndV (eCB oIsi (aCons (eVar 0) (aCons (eC (.ty "int")) aNil))) (eAndV (eNotV (eCB oIsi (aCons (eVar 0) (aCons (eC (.ty "bool")) aNil)))) (eChain oLe oLe (eVar 1) (eVar 0) (eVar 2)))))
def B_is_share : SM :=
    (sSeq (sIf (tOrM (tNotM (tTru (eCB oIsi (aCons (eVar 0) (aCons (eC (.ty "tuple")) aNil))))) (tOf (eOp oNe (eCB oLen (aCons (eVar 0) aNil)) (eC (.int 2))))) (sRet (eC (.bl false))) sNext)
    (sRet (eAndV (eFrz (eCall 3 C_is_integer (aCons (eOp oIx (eVar 0) (eC (.int 0))) (aCons (eC (.int 1)) (aCons (eC (.int 100)) aNil))))) (eFrz (eCall 3 C_is_integer (aCons (eOp oIx (eVar 0) (eC (.int 1))) (aCons (eC (.int 1)) (aCons (eC (.int 100)) aNil))))))))
def B_part_of : SM :=
    (sSeq (sAsg (eVar 0) (gTup 2 (gCons (gN 2) (gCons (gN 3) gNil))))
    (sRet (eNeg (eOp oDiv (eOp (oMul true) (eNeg (eVar 1)) (eVar 2)) (eVar 3)))))
def B_least_hold : SM :=
    (sSeq (sAsg (eVar 0) (gTup 2 (gCons (gN 2) (gCons (gN 3) gNil))))
    (sRet (eOp (oAdd false) (eOp oDiv (eOp (oMul true) (eOp oSub (eVar 1) (eC (.int 1))) (eVar 3)) (eVar 2)) (eC (.int 1)))))
def B_check_parts (K : PySem.W.Frag) (a : Ad) : SM :=
    (sSeq (sIf (tNotM (tTru (eFrz (eCall 3 C_is_integer (aCons (eVar 0) (aCons (eC (.int 1)) (aCons (eC (.int 1000000000000000000000000000000)) aNil))))))) (sRaise a.c_InvalidBook "part" (aCons (eC (.str "first")) aNil)) sNext)
    (sSeq (sIf (tOrM (tNotM (tTru (eFrz (eCall 3 C_is_integer (aCons (eVar 1) (aCons (eC (.int 1)) (aCons (eC (.int 1000000000000000000000000000000)) aNil))))))) (tOf (eOp oLt (eVar 1) (eVar 0)))) (sRaise a.c_InvalidBook "part" (aCons (eVar 3) aNil)) sNext)
    (sIf (tNotM (tTru (eFrz (eCall 1 C_is_share (aCons (eVar 2) aNil))))) (sRaise a.c_InvalidBook "part" (aCons (eC (.str "share")) aNil)) sNext)))
def B_Book___init__ (K : PySem.W.Frag) (a : Ad) : SM :=
    (sSeq (sDrop (eFrz (eCall 4 C_check_parts (aCons (eVar 1) (aCons (eVar 2) (aCons (eVar 3) (aCons (eC (.str "roof")) aNil)))))))
    (sSeq (sFldT a.c_Book "own_first" (eVar 0) (eVar 1))
    (sSeq (sFldT a.c_Book "own_roof" (eVar 0) (eVar 2))
    (sFldT a.c_Book "own_share" (eVar 0) (eVar 3)))))
def B_Book_parts (K : PySem.W.Frag) (a : Ad) : SM :=
    (sRet (eTup (aCons (eFld a.c_Book "own_first" (eVar 0)) (aCons (eFld a.c_Book "own_roof" (eVar 0)) (aCons (eFld a.c_Book "own_share" (eVar 0)) aNil)))))
def B_Book___eq__ (K : PySem.W.Frag) (a : Ad) : SM :=
    (sRet (eAndV (eCB (oIsiC K) (aCons (eVar 1) (aCons (eC (.ref a.c_Book)) aNil))) (eOp oEq (eFrz (eMeth a.c_Book "parts" 1 (C_Book_parts a) (eVar 0) aNil)) (eFrz (eMeth a.c_Book "parts" 1 (C_Book_parts a) (eVar 1) aNil)))))
def B_Book___le__ (K : PySem.W.Frag) (a : Ad) : SM :=
    (sSeq (sIf (tNotM (tTru (eCB (oIsiC K) (aCons (eVar 1) (aCons (eC (.ref a.c_Book)) aNil))))) sNever sNext)
    (sSeq (sIf (tOrM (tOf (eOp oGt (eFld a.c_Book "own_first" (eVar 0)) (eFld a.c_Book "own_first" (eVar 1)))) (tOf (eOp oGt (eFld a.c_Book "own_roof" (eVar 0)) (eFld a.c_Book "own_roof" (eVar 1))))) (sRet (eC (.bl false))) sNext)
    (sRet (eCall 2 C_is_never_more (aCons (eFrz (eMeth a.c_Book "parts" 1 (C_Book_parts a) (eVar 0) aNil)) (aCons (eFrz (eMeth a.c_Book "parts" 1 (C_Book_parts a) (eVar 1) aNil)) aNil))))))
def B_step_of : SM :=
    (sSeq (sAsg (eVar 0) (gTup 3 (gCons (gN 2) (gCons (gN 3) (gCons (gN 4) gNil)))))
    (sSeq (sAsg (eFrz (eCall 2 C_part_of (aCons (eVar 4) (aCons (eVar 1) aNil)))) (gN 5))
    (sSeq (sIf (tOf (eOp oLt (eVar 5) (eVar 2))) (sRet (eVar 2)) sNext)
    (sRet (eIf (tOf (eOp oLt (eVar 5) (eVar 3))) (eVar 5) (eVar 3))))))
def B_is_never_more : SM :=
    (sSeq (sAsg (eOp oIx (eVar 0) (eC (.int 2))) (gTup 2 (gCons (gN 2) (gCons (gN 3) gNil))))
    (sSeq (sAsg (eOp oIx (eVar 1) (eC (.int 2))) (gTup 2 (gCons (gN 4) (gCons (gN 5) gNil))))
    (sSeq (sIf (tOrM (tOf (eOp oLe (eOp (oMul true) (eVar 2) (eVar 5)) (eOp (oMul true) (eVar 4) (eVar 3)))) (tOf (eOp oEq (eOp oIx (eVar 0) (eC (.int 0))) (eOp oIx (eVar 0) (eC (.int 1)))))) (sRet (eC (.bl true))) sNext)
    (sSeq (sAsg (eFrz (eCall 2 C_least_hold (aCons (eOp oIx (eVar 0) (eC (.int 2))) (aCons (eOp oIx (eVar 0) (eC (.int 1))) aNil)))) (gN 6))
    (sSeq (sAsg (eOp oSub (eVar 6) (eOp (oMul true) (eVar 3) (eVar 5))) (gN 7))
    (sSeq (sIf (tOf (eOp oLt (eVar 7) (eC (.int 0)))) (sAsg (eC (.int 0)) (gN 7)) sNext)
    (sSeq (sFor (iRangeW (aCons (eVar 7) (aCons (eOp (oAdd true) (eVar 6) (eC (.int 1))) aNil))) (gN 8) (sIf (tOf (eOp oGt (eFrz (eCall 2 C_step_of (aCons (eVar 0) (aCons (eVar 8) aNil)))) (eFrz (eCall 2 C_step_of (aCons (eVar 1) (aCons (eVar 8) aNil)))))) (sRet (eC (.bl false))) sNext))
    (sRet (eC (.bl true))))))))))
def B_law_hand : SM :=
    (sSeq (sAsg (eOp oIx (eOp (oAdd true) (eSl true (eVar 0) (mPart (eVar 1)) (mPart (eOp (oAdd true) (eVar 1) (eC (.int 1))))) (eC (.lst [.int 0]))) (eC (.int 0))) (gN 2))
    (sSeq (sAsg (eOp oMod (eOp (oMul true) (eOp (oAdd true) (eOp (oAdd true) (eOp oMod (eCB oInt (aCons (eVar 2) aNil)) (eC (.int 2147483647))) (eOp (oMul true) (eC (.int 7919)) (eVar 1))) (eC (.int 1))) (eC (.int 48271))) (eC (.int 2147483629))) (gN 3))
    (sRet (eLst false (aCons (eOp (oMul true) (eCB oInt (aCons (eOp oGe (eVar 2) (eC (.int (10 ^ 18)))) aNil)) (eVar 2)) (aCons (eVar 3) aNil))))))
def B_law_draw : SM :=
    (sSeq (sIf (tOf (eOp oGt (eOp oIx (eVar 0) (eC (.int 0))) (eC (.int 0)))) (sSeq (sAsg (eOp oMod (eCB oInt (aCons (eOp oIx (eVar 0) (eC (.int 0))) aNil)) (eVar 1)) (gN 2))
    (sSeq (sAsg (eOp oDiv (eOp oIx (eVar 0) (eC (.int 0))) (eVar 1)) (gSub (eVar 0) (eC (.int 0))))
    (sRet (eVar 2)))) sNext)
    (sSeq (sAsg (eOp oMod (eCB oInt (aCons (eOp (oAdd true) (eOp (oMul true) (eOp oIx (eVar 0) (eC (.int 1))) (eC (.int 48271))) (eC (.int 11))) aNil)) (eC (.int 2147483647))) (gSub (eVar 0) (eC (.int 1))))
    (sRet (eOp oMod (eOp oDiv (eOp oMod (eCB oInt (aCons (eOp (oMul true) (eOp oIx (eVar 0) (eC (.int 1))) (eOp oIx (eVar 0) (eC (.int 1)))) aNil)) (eC (.int 2147483629))) (eC (.int 64))) (eVar 1)))))
def B_law_book : SM :=
    (sSeq (sAsg (eOp oIx (eLst true (aCons (eC (.int 1)) (aCons (eC (.int 1)) (aCons (eC (.int 2)) (aCons (eC (.int 3)) (aCons (eOp (oAdd true) (eC (.int 1)) (eFrz (eCall 2 CDraw (aCons (eVar 0) (aCons (eC (.int 6)) aNil))))) (aCons (eC (.int (10 ^ 30))) aNil))))))) (eFrz (eCall 2 CDraw (aCons (eVar 0) (aCons (eC (.int 6)) aNil))))) (gN 1))
    (sSeq (sAsg (eOp (oAdd true) (eVar 1) (eOp oIx (eLst true (aCons (eC (.int 0)) (aCons (eC (.int 0)) (aCons (eC (.int 1)) (aCons (eFrz (eCall 2 CDraw (aCons (eVar 0) (aCons (eC (.int 12)) aNil)))) (aCons (eOp (oAdd true) (eC (.int 5)) (eFrz (eCall 2 CDraw (aCons (eVar 0) (aCons (eC (.int 40)) aNil))))) (aCons (eC (.int (10 ^ 30))) aNil))))))) (eFrz (eCall 2 CDraw (aCons (eVar 0) (aCons (eC (.int 6)) aNil)))))) (gN 2))
    (sSeq (sAsg (eCB oMin (aCons (eCB oInt (aCons (eVar 2) aNil)) (aCons (eC (.int (10 ^ 30))) aNil))) (gN 2))
    (sSeq (sPar 3 4 (aCons (eOp (oAdd true) (eC (.int 1)) (eFrz (eCall 2 CDraw (aCons (eVar 0) (aCons (eC (.int 100)) aNil))))) (aCons (eOp (oAdd true) (eC (.int 1)) (eFrz (eCall 2 CDraw (aCons (eVar 0) (aCons (eC (.int 100)) aNil))))) aNil)))
    (sRet (eTup (aCons (eVar 1) (aCons (eVar 2) (aCons (eOp oIx (eLst true (aCons (eC (.tup [.int 1, .int 1])) (aCons (eC (.tup [.int 1, .int 1])) (aCons (eC (.tup [.int 1, .int 2])) (aCons (eC (.tup [.int 2, .int 1])) (aCons (eTup (aCons (eVar 3) (aCons (eVar 4) aNil))) aNil)))))) (eFrz (eCall 2 CDraw (aCons (eVar 0) (aCons (eC (.int 5)) aNil))))) aNil)))))))))
def B_law_made (K : PySem.W.Frag) (a : Ad) : SM :=
    (sRet (eMakeX a.c_Book 2 1 4 (fun ts zs => match ts, zs with | [x0, x1, x2], [k0] => [x0, x1, x2, k0] | _, _ => []) (C_Book___init__ a) (aCons (eOp oIx (eVar 0) (eC (.int 0))) (aCons (eOp oIx (eVar 0) (eC (.int 1))) aNil)) (aCons (eOp oIx (eVar 0) (eC (.int 2))) aNil)))
def B_law_step : SM :=
    (sSeq (sAsg (eVar 0) (gTup 3 (gCons (gN 2) (gCons (gN 3) (gCons (gN 4) gNil)))))
    (sSeq (sAsg (eOp oDiv (eOp (oMul true) (eVar 1) (eOp oIx (eVar 4) (eC (.int 0)))) (eOp oIx (eVar 4) (eC (.int 1)))) (gN 5))
    (sSeq (sIf (tOf (eOp oLt (eOp (oMul true) (eVar 5) (eOp oIx (eVar 4) (eC (.int 1)))) (eOp (oMul true) (eVar 1) (eOp oIx (eVar 4) (eC (.int 0)))))) (sAsg (eOp (oAdd true) (eVar 5) (eC (.int 1))) (gN 5)) sNext)
    (sSeq (sIf (tOf (eOp oLt (eVar 5) (eVar 2))) (sRet (eVar 2)) sNext)
    (sRet (eIf (tOf (eOp oLt (eVar 5) (eVar 3))) (eVar 5) (eVar 3)))))))
def B_law_small : SM :=
    (sSeq (sAsg (eOp (oAdd true) (eC (.int 1)) (eFrz (eCall 2 CDraw (aCons (eVar 0) (aCons (eC (.int 5)) aNil))))) (gN 1))
    (sSeq (sAsg (eOp (oAdd true) (eVar 1) (eFrz (eCall 2 CDraw (aCons (eVar 0) (aCons (eC (.int 9)) aNil))))) (gN 2))
    (sRet (eTup (aCons (eVar 1) (aCons (eVar 2) (aCons (eTup (aCons (eOp (oAdd true) (eC (.int 1)) (eFrz (eCall 2 CDraw (aCons (eVar 0) (aCons (eC (.int 9)) aNil))))) (aCons (eOp (oAdd true) (eC (.int 1)) (eFrz (eCall 2 CDraw (aCons (eVar 0) (aCons (eC (.int 9)) aNil))))) aNil))) aNil)))))))
def B_law_due : SM :=
    (sSeq (sFor (iRange1 (aCons (eC (.int 130)) aNil)) (gN 2) (sIf (tOf (eOp oGt (eFrz (eCall 2 C_law_step (aCons (eVar 0) (aCons (eVar 2) aNil)))) (eFrz (eCall 2 C_law_step (aCons (eVar 1) (aCons (eVar 2) aNil)))))) (sRet (eC (.bl false))) sNext))
    (sRet (eC (.bl true))))
def B_law_wide_right (K : PySem.W.Frag) (a : Ad) : SM :=
    (sSeq (sAsg (eOp (oAdd true) (eOp oDiv (eOp (oMul true) (eOp oSub (eOp oIx (eVar 0) (eC (.int 1))) (eC (.int 1))) (eOp oIx (eOp oIx (eVar 0) (eC (.int 2))) (eC (.int 1)))) (eOp oIx (eOp oIx (eVar 0) (eC (.int 2))) (eC (.int 0)))) (eC (.int 1))) (gN 2))
    (sSeq (sAsg (eOp (oAdd true) (eC (.lst [.int 0])) (eLc true (iRange1 (aCons (eC (.int 10000)) aNil)) (cN 4 [4]) (tAndM (tOf (eOp oGe (eOp oSub (eVar 2) (eVar 4)) (eC (.int 0)))) (tOrM (tOf (eOp oLt (eVar 4) (eC (.int 40)))) (tOf (eOp oEq (eOp oMod (eVar 4) (eC (.int 97))) (eC (.int 0)))))) (eOp oSub (eVar 2) (eVar 4)))) (gN 3))
    (sSeq (sAsg (eOp oEq (eLc true (iSeq (eVar 3)) (cN 6 [6]) (tOf (eOp oGt (eFrz (eCall 2 C_law_step (aCons (eVar 0) (aCons (eVar 6) aNil)))) (eFrz (eCall 2 C_law_step (aCons (eVar 1) (aCons (eVar 6) aNil)))))) (eC (.int 1))) (eC (.lst []))) (gN 5))
    (sSeq (sIf (tAndM (tOf (eOp (oOwn a.c_Book (C_Book___le__ a)) (eFrz (eCall 1 (C_law_made a) (aCons (eVar 0) aNil))) (eFrz (eCall 1 (C_law_made a) (aCons (eVar 1) aNil))))) (tNotM (tTru (eVar 5)))) (sRet (eC (.bl false))) sNext)
    (sSeq (sAsg (eOp oGt (eOp (oMul true) (eOp oIx (eOp oIx (eVar 0) (eC (.int 2))) (eC (.int 0))) (eOp oIx (eOp oIx (eVar 1) (eC (.int 2))) (eC (.int 1)))) (eOp (oMul true) (eOp oIx (eOp oIx (eVar 1) (eC (.int 2))) (eC (.int 0))) (eOp oIx (eOp oIx (eVar 0) (eC (.int 2))) (eC (.int 1))))) (gN 7))
    (sSeq (sIf (tAndM (tTru (eVar 7)) (tAndM (tOf (eOp oEq (eOp oIx (eVar 0) (eC (.int 1))) (eOp oIx (eVar 1) (eC (.int 1))))) (tOf (eOp oLt (eOp (oMul true) (eCB oMax (aCons (eCB oInt (aCons (eOp oIx (eVar 0) (eC (.int 0))) aNil)) (aCons (eCB oInt (aCons (eOp oIx (eVar 1) (eC (.int 0))) aNil)) aNil))) (eC (.int 9))) (eOp oIx (eVar 0) (eC (.int 1))))))) (sRet (eOrV (eOp oLt (eOp oIx (eVar 0) (eC (.int 1))) (eC (.int (10 ^ 9)))) (eNotV (eOp (oOwn a.c_Book (C_Book___le__ a)) (eFrz (eCall 1 (C_law_made a) (aCons (eVar 0) aNil))) (eFrz (eCall 1 (C_law_made a) (aCons (eVar 1) aNil))))))) sNext)
    (sRet (eC (.bl true)))))))))
def B_law (K : PySem.W.Frag) (a : Ad) : SM :=
    (sSeq (sFor (iRange1 (aCons (eCB oMax (aCons (eC (.int 1)) (aCons (eCB oMin (aCons (eCB oLen (aCons (eVar 0) aNil)) (aCons (eC (.int 8)) aNil))) aNil))) aNil)) (gN 1) (sSeq (sAsg (eFrz (eCall 2 CHand (aCons (eVar 0) (aCons (eVar 1) aNil)))) (gN 2))
    (sFor (iRange1 (aCons (eC (.int 3)) aNil)) (gN 3) (sSeq (sPar 4 5 (aCons (eFrz (eCall 1 C_law_small (aCons (eVar 2) aNil))) (aCons (eFrz (eCall 1 C_law_small (aCons (eVar 2) aNil))) aNil)))
    (sSeq (sAsg (eOp (oOwn a.c_Book (C_Book___le__ a)) (eFrz (eCall 1 (C_law_made a) (aCons (eVar 4) aNil))) (eFrz (eCall 1 (C_law_made a) (aCons (eVar 5) aNil)))) (gN 6))
    (sSeq (sIf (tOrM (tNotM (tTru (eCB oIsi (aCons (eVar 6) (aCons (eC (.ty "bool")) aNil))))) (tOf (eOp oNe (eVar 6) (eFrz (eCall 2 C_law_due (aCons (eVar 4) (aCons (eVar 5) aNil))))))) (sRet (eC (.bl false))) sNext)
    (sSeq (sPar 7 8 (aCons (eFrz (eCall 1 C_law_draws (aCons (eVar 2) aNil))) (aCons (eFrz (eCall 1 C_law_draws (aCons (eVar 2) aNil))) aNil)))
    (sSeq (sAsg (eTup (aCons (eOp oIx (eVar 8) (eC (.int 0))) (aCons (eOp oIx (eVar 8) (eC (.int 1))) (aCons (eOp oIx (eVar 7) (eC (.int 2))) aNil)))) (gN 8))
    (sSeq (sAsg (eAndV (eOp oLe (eOp oIx (eVar 7) (eC (.int 0))) (eOp oIx (eVar 8) (eC (.int 0)))) (eOp oLe (eOp oIx (eVar 7) (eC (.int 1))) (eOp oIx (eVar 8) (eC (.int 1))))) (gN 9))
    (sSeq (sIf (tOf (eOp oNe (eOp (oOwn a.c_Book (C_Book___le__ a)) (eFrz (eCall 1 (C_law_made a) (aCons (eVar 7) aNil))) (eFrz (eCall 1 (C_law_made a) (aCons (eVar 8) aNil)))) (eVar 9))) (sRet (eC (.bl false))) sNext)
    (sSeq (sAsg (eTup (aCons (eOp oIx (eVar 8) (eC (.int 0))) (aCons (eOp oIx (eVar 8) (eC (.int 1))) (aCons (eOp oIx (eC (.lst [.tup [.int 2, .int 1], .tup [.int 1, .int 2], .tup [.int 99, .int 100], .tup [.int 100, .int 99]])) (eFrz (eCall 2 CDraw (aCons (eVar 2) (aCons (eC (.int 4)) aNil))))) aNil)))) (gN 10))
    (sSeq (sIf (tOrM (tNotM (tTru (eFrz (eCall 2 C_law_wide_right (aCons (eVar 7) (aCons (eVar 10) aNil)))))) (tNotM (tTru (eFrz (eCall 2 C_law_wide_right (aCons (eVar 10) (aCons (eVar 7) aNil))))))) (sRet (eC (.bl false))) sNext)
    (sSeq (sIf (tOf (eOp oNe (eOp (oOwn a.c_Book (C_Book___eq__ a)) (eFrz (eCall 1 (C_law_made a) (aCons (eVar 7) aNil))) (eFrz (eCall 1 (C_law_made a) (aCons (eVar 8) aNil)))) (eOp oEq (eVar 7) (eVar 8)))) (sRet (eC (.bl false))) sNext)
    (sIf (tNotM (tOf (eOp (oOwn a.c_Book (C_Book___le__ a)) (eFrz (eCall 1 (C_law_made a) (aCons (eVar 7) aNil))) (eFrz (eCall 1 (C_law_made a) (aCons (eVar 7) aNil)))))) (sRet (eC (.bl false))) sNext))))))))))))))
    (sRet (eC (.bl true))))
end TL

namespace TL
open PySem L2

theorem pl_law_draw : ∀ ts h Q E, ts.length = 2 → CxDraw ts h Q E → B_law_draw (ends Q E) (startT N_law_draw.length ts) h := by
  rintro ts h Q E - ⟨p, n, a, b, rfl, n0, n1, hp, ⟨a0, b0, b1⟩, q⟩
  unfold B_law_draw
  (try simp only [hp, lim, oOwn, oIsiC, view_bl, dep_bl, eqT_tt, eqT_ff, eqT_tf, eqT_ft, eDIn, eDGet, eDNew, eDc, keyT, eMakeX, eCallK, eRev, oRepr, eMeth, eProp, eFld, eMake, sRaise, sPar3, ends, startT, eVar, eC, eOp, tOf, eChain, tAndM, tOrM, tNotM, eAndV, eOrV, eNotV, eIf, aNil, aCons, eTup, eLst, eFrz, frzK, oI, oIC, oSub, oMod, oDiv, oPow, oLt, oLe, oGt, oGe, oAddI', oAddL, oMulI', oAdd, oMul, eNeg, oIsN, oNotN, oIx, atK, mNo, mPart, eSl, eCB, oLen, oInt, oSumL, oMax2, oMin2, oMax1, oMin1, oList, oBls, eCall, eBM, eBM0, isLs, oApp, oPop, oExt, lsOf, tTru, sNext, sSeq, sDrop, sRet, sRetN, sIf, sBreak, sCont, sNever, gN, gNil, gCons, gTup, setT, gSub, sAsg, sPar, sAug, oIxL, sAugS, oAddI, sFor, eLc, iSeq, iRange1, iRange2, iEnum, tYes, oIsi, kdOf, oEq, oNe, eqT_int, eqT_nn, eqT_in, eqT_ni,   atI_0, atI_1, atI_2, atI_3, atI_4, atI_5, atI_6, atI_7, atI_8, atI_m1, ixN_0, ixN_1,   kdN_int, kdN_bool, kdN_str, kdN_list, kdN_tuple, isK, view_int, view_non, dep_int, dep_non, cN, cN2, wipeT,   mk_true, mk_false, put_same, put_put,   List.map_cons, List.map_nil, List.length_cons, List.length_nil, List.replicate, List.cons_append, List.nil_append, List.append_nil, List.set_cons_zero, List.set_cons_succ, List.getElem?_cons_zero, List.getElem?_cons_succ, List.getElem?_nil, Nat.reduceAdd, Nat.reduceSub, Nat.reduceLeDiff, Nat.reduceLT, Nat.reduceEqDiff, Option.isSome_some, Option.isSome_none, true_and, and_true, if_true, if_false, Bool.false_eq_true, Bool.not_true, Bool.not_false, reduceCtorEq, Nat.zero_add, Nat.zero_le, decide_eq_true_eq, Bool.not_eq_true', decide_eq_false_iff_not, ite_true, ite_false, Bool.if_false_right, Bool.if_true_left, decide_true, decide_false, Bool.true_or, Bool.or_true, Bool.false_or, Bool.or_false, Bool.true_and, Bool.and_true, Bool.false_and, Bool.and_false, List.length_map, not_true_eq_false, not_false_eq_true, false_and, and_false, bne_self_eq_false, Bool.not_eq_false])
  split
  · refine ⟨n0, ⟨n0, n1⟩, dn_self (q _ _ _ (Int.emod_nonneg _ (by omega)) (Int.emod_lt_of_pos _ n0) ⟨Int.ediv_nonneg a0 (by omega), b0, b1⟩)⟩
  · have c0 := Int.emod_nonneg (b * 48271 + 11) (show (2147483647 : Int) ≠ 0 by decide)
    have c1 := Int.emod_lt_of_pos (b * 48271 + 11) (show (0 : Int) < 2147483647 by decide)
    generalize (b * 48271 + 11) % 2147483647 = c at *
    refine ⟨.inl (by omega), by decide, .inl (by omega), by decide, ⟨by decide, by decide⟩, n0, dn_self (q _ _ _ (Int.emod_nonneg _ (by omega)) (Int.emod_lt_of_pos _ n0) ⟨a0, c0, c1⟩)⟩
theorem cell_at (ns : List Int) (lo hi : Option Int) : ∃ c, atI (cutT (ns.map T.int) lo hi ++ [T.int 0]) 0 = some (.int c) ∧ (cutT (ns.map T.int) lo hi).length ≤ ns.length := by
  unfold cutT
  rw [← List.map_drop, ← List.map_take]
  generalize e : (List.drop _ ns).take _ = xs
  have hl : xs.length ≤ ns.length := by
    rw [← e, List.length_take, List.length_drop]; omega
  cases xs with
  | nil => exact ⟨0, atI_0, by simp⟩
  | cons x r => exact ⟨x, atI_0, by simpa using hl⟩
theorem pl_law_hand : ∀ ts h Q E, ts.length = 2 → CxHand ts h Q E → B_law_hand (ends Q E) (startT N_law_hand.length ts) h := by
  rintro ts h Q E - ⟨ns, k, rfl, k0, k1, hn, q⟩
  unfold B_law_hand
  obtain ⟨c, hc, hl⟩ := cell_at ns (some k) (some (k + 1))
  (try simp only [hc, lim, oOwn, oIsiC, view_bl, dep_bl, eqT_tt, eqT_ff, eqT_tf, eqT_ft, eDIn, eDGet, eDNew, eDc, keyT, eMakeX, eCallK, eRev, oRepr, eMeth, eProp, eFld, eMake, sRaise, sPar3, ends, startT, eVar, eC, eOp, tOf, eChain, tAndM, tOrM, tNotM, eAndV, eOrV, eNotV, eIf, aNil, aCons, eTup, eLst, eFrz, frzK, oI, oIC, oSub, oMod, oDiv, oPow, oLt, oLe, oGt, oGe, oAddI', oAddL, oMulI', oAdd, oMul, eNeg, oIsN, oNotN, oIx, atK, mNo, mPart, eSl, eCB, oLen, oInt, oSumL, oMax2, oMin2, oMax1, oMin1, oList, oBls, eCall, eBM, eBM0, isLs, oApp, oPop, oExt, lsOf, tTru, sNext, sSeq, sDrop, sRet, sRetN, sIf, sBreak, sCont, sNever, gN, gNil, gCons, gTup, setT, gSub, sAsg, sPar, sAug, oIxL, sAugS, oAddI, sFor, eLc, iSeq, iRange1, iRange2, iEnum, tYes, oIsi, kdOf, oEq, oNe, eqT_int, eqT_nn, eqT_in, eqT_ni,   atI_0, atI_1, atI_2, atI_3, atI_4, atI_5, atI_6, atI_7, atI_8, atI_m1, ixN_0, ixN_1,   kdN_int, kdN_bool, kdN_str, kdN_list, kdN_tuple, isK, view_int, view_non, dep_int, dep_non, cN, cN2, wipeT,   mk_true, mk_false, put_same, put_put,   List.map_cons, List.map_nil, List.length_cons, List.length_nil, List.replicate, List.cons_append, List.nil_append, List.append_nil, List.set_cons_zero, List.set_cons_succ, List.getElem?_cons_zero, List.getElem?_cons_succ, List.getElem?_nil, Nat.reduceAdd, Nat.reduceSub, Nat.reduceLeDiff, Nat.reduceLT, Nat.reduceEqDiff, Option.isSome_some, Option.isSome_none, true_and, and_true, if_true, if_false, Bool.false_eq_true, Bool.not_true, Bool.not_false, reduceCtorEq, Nat.zero_add, Nat.zero_le, decide_eq_true_eq, Bool.not_eq_true', decide_eq_false_iff_not, ite_true, ite_false, Bool.if_false_right, Bool.if_true_left, decide_true, decide_false, Bool.true_or, Bool.or_true, Bool.false_or, Bool.or_false, Bool.true_and, Bool.and_true, Bool.false_and, Bool.and_false, List.length_map, not_true_eq_false, not_false_eq_true, false_and, and_false, bne_self_eq_false, Bool.not_eq_false])
  have e18 : (10 : Int) ^ 18 = 1000000000000000000 := by decide
  have d0 := Int.emod_nonneg c (show (2147483647 : Int) ≠ 0 by decide)
  have d1 := Int.emod_lt_of_pos c (show (0 : Int) < 2147483647 by decide)
  generalize c % 2147483647 = d at *
  have s0 := Int.emod_nonneg ((d + 7919 * k + 1) * 48271) (show (2147483629 : Int) ≠ 0 by decide)
  have s1 := Int.emod_lt_of_pos ((d + 7919 * k + 1) * 48271) (show (0 : Int) < 2147483629 by decide)
  refine ⟨by omega, by decide, .inl (by decide), .inl (by omega), by decide, .inl (by split <;> decide), fun p hp => dn_self (q _ _ ⟨?_, s0, by omega⟩ p hp)⟩
  rw [e18]
  split <;> omega
theorem pl_is_integer : ∀ ts h Q E, ts.length = 3 → C_is_integer ts h Q E → B_is_integer (ends Q E) (startT N_is_integer.length ts) h := by
  rintro ts h Q E - ⟨x, a, b, k, rfl, hk, q⟩
  unfold B_is_integer
  cases x with
  | int i =>
    (try simp only [isInt, lim, oOwn, oIsiC, view_bl, dep_bl, eqT_tt, eqT_ff, eqT_tf, eqT_ft, eDIn, eDGet, eDNew, eDc, keyT, eMakeX, eCallK, eRev, oRepr, eMeth, eProp, eFld, eMake, sRaise, sPar3, ends, startT, eVar, eC, eOp, tOf, eChain, tAndM, tOrM, tNotM, eAndV, eOrV, eNotV, eIf, aNil, aCons, eTup, eLst, eFrz, frzK, oI, oIC, oSub, oMod, oDiv, oPow, oLt, oLe, oGt, oGe, oAddI', oAddL, oMulI', oAdd, oMul, eNeg, oIsN, oNotN, oIx, atK, mNo, mPart, eSl, eCB, oLen, oInt, oSumL, oMax2, oMin2, oMax1, oMin1, oList, oBls, eCall, eBM, eBM0, isLs, oApp, oPop, oExt, lsOf, tTru, sNext, sSeq, sDrop, sRet, sRetN, sIf, sBreak, sCont, sNever, gN, gNil, gCons, gTup, setT, gSub, sAsg, sPar, sAug, oIxL, sAugS, oAddI, sFor, eLc, iSeq, iRange1, iRange2, iEnum, tYes, oIsi, kdOf, oEq, oNe, eqT_int, eqT_nn, eqT_in, eqT_ni,   atI_0, atI_1, atI_2, atI_3, atI_4, atI_5, atI_6, atI_7, atI_8, atI_m1, ixN_0, ixN_1,   kdN_int, kdN_bool, kdN_str, kdN_list, kdN_tuple, isK, view_int, view_non, dep_int, dep_non, cN, cN2, wipeT,   mk_true, mk_false, put_same, put_put,   List.map_cons, List.map_nil, List.length_cons, List.length_nil, List.replicate, List.cons_append, List.nil_append, List.append_nil, List.set_cons_zero, List.set_cons_succ, List.getElem?_cons_zero, List.getElem?_cons_succ, List.getElem?_nil, Nat.reduceAdd, Nat.reduceSub, Nat.reduceLeDiff, Nat.reduceLT, Nat.reduceEqDiff, Option.isSome_some, Option.isSome_none, true_and, and_true, if_true, if_false, Bool.false_eq_true, Bool.not_true, Bool.not_false, reduceCtorEq, Nat.zero_add, Nat.zero_le, decide_eq_true_eq, Bool.not_eq_true', decide_eq_false_iff_not, ite_true, ite_false, Bool.if_false_right, Bool.if_true_left, decide_true, decide_false, Bool.true_or, Bool.or_true, Bool.false_or, Bool.or_false, Bool.true_and, Bool.and_true, Bool.false_and, Bool.and_false, List.length_map, not_true_eq_false, not_false_eq_true, false_and, and_false, bne_self_eq_false, Bool.not_eq_false])
    simp only [isInt] at q
    by_cases c : a ≤ i
    · simp [c] at q ⊢; exact dn_self q
    · simp [c] at q ⊢; exact dn_self q
  | ref p =>
    simp only [kdOf] at hk
    split at hk
    · rename_i ts e
      (try simp only [e, lim, oOwn, oIsiC, view_bl, dep_bl, eqT_tt, eqT_ff, eqT_tf, eqT_ft, eDIn, eDGet, eDNew, eDc, keyT, eMakeX, eCallK, eRev, oRepr, eMeth, eProp, eFld, eMake, sRaise, sPar3, ends, startT, eVar, eC, eOp, tOf, eChain, tAndM, tOrM, tNotM, eAndV, eOrV, eNotV, eIf, aNil, aCons, eTup, eLst, eFrz, frzK, oI, oIC, oSub, oMod, oDiv, oPow, oLt, oLe, oGt, oGe, oAddI', oAddL, oMulI', oAdd, oMul, eNeg, oIsN, oNotN, oIx, atK, mNo, mPart, eSl, eCB, oLen, oInt, oSumL, oMax2, oMin2, oMax1, oMin1, oList, oBls, eCall, eBM, eBM0, isLs, oApp, oPop, oExt, lsOf, tTru, sNext, sSeq, sDrop, sRet, sRetN, sIf, sBreak, sCont, sNever, gN, gNil, gCons, gTup, setT, gSub, sAsg, sPar, sAug, oIxL, sAugS, oAddI, sFor, eLc, iSeq, iRange1, iRange2, iEnum, tYes, oIsi, kdOf, oEq, oNe, eqT_int, eqT_nn, eqT_in, eqT_ni,   atI_0, atI_1, atI_2, atI_3, atI_4, atI_5, atI_6, atI_7, atI_8, atI_m1, ixN_0, ixN_1,   kdN_int, kdN_bool, kdN_str, kdN_list, kdN_tuple, isK, view_int, view_non, dep_int, dep_non, cN, cN2, wipeT,   mk_true, mk_false, put_same, put_put,   List.map_cons, List.map_nil, List.length_cons, List.length_nil, List.replicate, List.cons_append, List.nil_append, List.append_nil, List.set_cons_zero, List.set_cons_succ, List.getElem?_cons_zero, List.getElem?_cons_succ, List.getElem?_nil, Nat.reduceAdd, Nat.reduceSub, Nat.reduceLeDiff, Nat.reduceLT, Nat.reduceEqDiff, Option.isSome_some, Option.isSome_none, true_and, and_true, if_true, if_false, Bool.false_eq_true, Bool.not_true, Bool.not_false, reduceCtorEq, Nat.zero_add, Nat.zero_le, decide_eq_true_eq, Bool.not_eq_true', decide_eq_false_iff_not, ite_true, ite_false, Bool.if_false_right, Bool.if_true_left, decide_true, decide_false, Bool.true_or, Bool.or_true, Bool.false_or, Bool.or_false, Bool.true_and, Bool.and_true, Bool.false_and, Bool.and_false, List.length_map, not_true_eq_false, not_false_eq_true, false_and, and_false, bne_self_eq_false, Bool.not_eq_false])
      exact dn_self q
    · cases hk
  | non => (try simp only [isInt, lim, oOwn, oIsiC, view_bl, dep_bl, eqT_tt, eqT_ff, eqT_tf, eqT_ft, eDIn, eDGet, eDNew, eDc, keyT, eMakeX, eCallK, eRev, oRepr, eMeth, eProp, eFld, eMake, sRaise, sPar3, ends, startT, eVar, eC, eOp, tOf, eChain, tAndM, tOrM, tNotM, eAndV, eOrV, eNotV, eIf, aNil, aCons, eTup, eLst, eFrz, frzK, oI, oIC, oSub, oMod, oDiv, oPow, oLt, oLe, oGt, oGe, oAddI', oAddL, oMulI', oAdd, oMul, eNeg, oIsN, oNotN, oIx, atK, mNo, mPart, eSl, eCB, oLen, oInt, oSumL, oMax2, oMin2, oMax1, oMin1, oList, oBls, eCall, eBM, eBM0, isLs, oApp, oPop, oExt, lsOf, tTru, sNext, sSeq, sDrop, sRet, sRetN, sIf, sBreak, sCont, sNever, gN, gNil, gCons, gTup, setT, gSub, sAsg, sPar, sAug, oIxL, sAugS, oAddI, sFor, eLc, iSeq, iRange1, iRange2, iEnum, tYes, oIsi, kdOf, oEq, oNe, eqT_int, eqT_nn, eqT_in, eqT_ni,   atI_0, atI_1, atI_2, atI_3, atI_4, atI_5, atI_6, atI_7, atI_8, atI_m1, ixN_0, ixN_1,   kdN_int, kdN_bool, kdN_str, kdN_list, kdN_tuple, isK, view_int, view_non, dep_int, dep_non, cN, cN2, wipeT,   mk_true, mk_false, put_same, put_put,   List.map_cons, List.map_nil, List.length_cons, List.length_nil, List.replicate, List.cons_append, List.nil_append, List.append_nil, List.set_cons_zero, List.set_cons_succ, List.getElem?_cons_zero, List.getElem?_cons_succ, List.getElem?_nil, Nat.reduceAdd, Nat.reduceSub, Nat.reduceLeDiff, Nat.reduceLT, Nat.reduceEqDiff, Option.isSome_some, Option.isSome_none, true_and, and_true, if_true, if_false, Bool.false_eq_true, Bool.not_true, Bool.not_false, reduceCtorEq, Nat.zero_add, Nat.zero_le, decide_eq_true_eq, Bool.not_eq_true', decide_eq_false_iff_not, ite_true, ite_false, Bool.if_false_right, Bool.if_true_left, decide_true, decide_false, Bool.true_or, Bool.or_true, Bool.false_or, Bool.or_false, Bool.true_and, Bool.and_true, Bool.false_and, Bool.and_false, List.length_map, not_true_eq_false, not_false_eq_true, false_and, and_false, bne_self_eq_false, Bool.not_eq_false]); exact dn_self q
  | bl b => (try simp only [isInt, lim, oOwn, oIsiC, view_bl, dep_bl, eqT_tt, eqT_ff, eqT_tf, eqT_ft, eDIn, eDGet, eDNew, eDc, keyT, eMakeX, eCallK, eRev, oRepr, eMeth, eProp, eFld, eMake, sRaise, sPar3, ends, startT, eVar, eC, eOp, tOf, eChain, tAndM, tOrM, tNotM, eAndV, eOrV, eNotV, eIf, aNil, aCons, eTup, eLst, eFrz, frzK, oI, oIC, oSub, oMod, oDiv, oPow, oLt, oLe, oGt, oGe, oAddI', oAddL, oMulI', oAdd, oMul, eNeg, oIsN, oNotN, oIx, atK, mNo, mPart, eSl, eCB, oLen, oInt, oSumL, oMax2, oMin2, oMax1, oMin1, oList, oBls, eCall, eBM, eBM0, isLs, oApp, oPop, oExt, lsOf, tTru, sNext, sSeq, sDrop, sRet, sRetN, sIf, sBreak, sCont, sNever, gN, gNil, gCons, gTup, setT, gSub, sAsg, sPar, sAug, oIxL, sAugS, oAddI, sFor, eLc, iSeq, iRange1, iRange2, iEnum, tYes, oIsi, kdOf, oEq, oNe, eqT_int, eqT_nn, eqT_in, eqT_ni,   atI_0, atI_1, atI_2, atI_3, atI_4, atI_5, atI_6, atI_7, atI_8, atI_m1, ixN_0, ixN_1,   kdN_int, kdN_bool, kdN_str, kdN_list, kdN_tuple, isK, view_int, view_non, dep_int, dep_non, cN, cN2, wipeT,   mk_true, mk_false, put_same, put_put,   List.map_cons, List.map_nil, List.length_cons, List.length_nil, List.replicate, List.cons_append, List.nil_append, List.append_nil, List.set_cons_zero, List.set_cons_succ, List.getElem?_cons_zero, List.getElem?_cons_succ, List.getElem?_nil, Nat.reduceAdd, Nat.reduceSub, Nat.reduceLeDiff, Nat.reduceLT, Nat.reduceEqDiff, Option.isSome_some, Option.isSome_none, true_and, and_true, if_true, if_false, Bool.false_eq_true, Bool.not_true, Bool.not_false, reduceCtorEq, Nat.zero_add, Nat.zero_le, decide_eq_true_eq, Bool.not_eq_true', decide_eq_false_iff_not, ite_true, ite_false, Bool.if_false_right, Bool.if_true_left, decide_true, decide_false, Bool.true_or, Bool.or_true, Bool.false_or, Bool.or_false, Bool.true_and, Bool.and_true, Bool.false_and, Bool.and_false, List.length_map, not_true_eq_false, not_false_eq_true, false_and, and_false, bne_self_eq_false, Bool.not_eq_false]); exact dn_self q
  | str z => (try simp only [isInt, lim, oOwn, oIsiC, view_bl, dep_bl, eqT_tt, eqT_ff, eqT_tf, eqT_ft, eDIn, eDGet, eDNew, eDc, keyT, eMakeX, eCallK, eRev, oRepr, eMeth, eProp, eFld, eMake, sRaise, sPar3, ends, startT, eVar, eC, eOp, tOf, eChain, tAndM, tOrM, tNotM, eAndV, eOrV, eNotV, eIf, aNil, aCons, eTup, eLst, eFrz, frzK, oI, oIC, oSub, oMod, oDiv, oPow, oLt, oLe, oGt, oGe, oAddI', oAddL, oMulI', oAdd, oMul, eNeg, oIsN, oNotN, oIx, atK, mNo, mPart, eSl, eCB, oLen, oInt, oSumL, oMax2, oMin2, oMax1, oMin1, oList, oBls, eCall, eBM, eBM0, isLs, oApp, oPop, oExt, lsOf, tTru, sNext, sSeq, sDrop, sRet, sRetN, sIf, sBreak, sCont, sNever, gN, gNil, gCons, gTup, setT, gSub, sAsg, sPar, sAug, oIxL, sAugS, oAddI, sFor, eLc, iSeq, iRange1, iRange2, iEnum, tYes, oIsi, kdOf, oEq, oNe, eqT_int, eqT_nn, eqT_in, eqT_ni,   atI_0, atI_1, atI_2, atI_3, atI_4, atI_5, atI_6, atI_7, atI_8, atI_m1, ixN_0, ixN_1,   kdN_int, kdN_bool, kdN_str, kdN_list, kdN_tuple, isK, view_int, view_non, dep_int, dep_non, cN, cN2, wipeT,   mk_true, mk_false, put_same, put_put,   List.map_cons, List.map_nil, List.length_cons, List.length_nil, List.replicate, List.cons_append, List.nil_append, List.append_nil, List.set_cons_zero, List.set_cons_succ, List.getElem?_cons_zero, List.getElem?_cons_succ, List.getElem?_nil, Nat.reduceAdd, Nat.reduceSub, Nat.reduceLeDiff, Nat.reduceLT, Nat.reduceEqDiff, Option.isSome_some, Option.isSome_none, true_and, and_true, if_true, if_false, Bool.false_eq_true, Bool.not_true, Bool.not_false, reduceCtorEq, Nat.zero_add, Nat.zero_le, decide_eq_true_eq, Bool.not_eq_true', decide_eq_false_iff_not, ite_true, ite_false, Bool.if_false_right, Bool.if_true_left, decide_true, decide_false, Bool.true_or, Bool.or_true, Bool.false_or, Bool.or_false, Bool.true_and, Bool.and_true, Bool.false_and, Bool.and_false, List.length_map, not_true_eq_false, not_false_eq_true, false_and, and_false, bne_self_eq_false, Bool.not_eq_false]); exact dn_self q
  | tup z => (try simp only [isInt, lim, oOwn, oIsiC, view_bl, dep_bl, eqT_tt, eqT_ff, eqT_tf, eqT_ft, eDIn, eDGet, eDNew, eDc, keyT, eMakeX, eCallK, eRev, oRepr, eMeth, eProp, eFld, eMake, sRaise, sPar3, ends, startT, eVar, eC, eOp, tOf, eChain, tAndM, tOrM, tNotM, eAndV, eOrV, eNotV, eIf, aNil, aCons, eTup, eLst, eFrz, frzK, oI, oIC, oSub, oMod, oDiv, oPow, oLt, oLe, oGt, oGe, oAddI', oAddL, oMulI', oAdd, oMul, eNeg, oIsN, oNotN, oIx, atK, mNo, mPart, eSl, eCB, oLen, oInt, oSumL, oMax2, oMin2, oMax1, oMin1, oList, oBls, eCall, eBM, eBM0, isLs, oApp, oPop, oExt, lsOf, tTru, sNext, sSeq, sDrop, sRet, sRetN, sIf, sBreak, sCont, sNever, gN, gNil, gCons, gTup, setT, gSub, sAsg, sPar, sAug, oIxL, sAugS, oAddI, sFor, eLc, iSeq, iRange1, iRange2, iEnum, tYes, oIsi, kdOf, oEq, oNe, eqT_int, eqT_nn, eqT_in, eqT_ni,   atI_0, atI_1, atI_2, atI_3, atI_4, atI_5, atI_6, atI_7, atI_8, atI_m1, ixN_0, ixN_1,   kdN_int, kdN_bool, kdN_str, kdN_list, kdN_tuple, isK, view_int, view_non, dep_int, dep_non, cN, cN2, wipeT,   mk_true, mk_false, put_same, put_put,   List.map_cons, List.map_nil, List.length_cons, List.length_nil, List.replicate, List.cons_append, List.nil_append, List.append_nil, List.set_cons_zero, List.set_cons_succ, List.getElem?_cons_zero, List.getElem?_cons_succ, List.getElem?_nil, Nat.reduceAdd, Nat.reduceSub, Nat.reduceLeDiff, Nat.reduceLT, Nat.reduceEqDiff, Option.isSome_some, Option.isSome_none, true_and, and_true, if_true, if_false, Bool.false_eq_true, Bool.not_true, Bool.not_false, reduceCtorEq, Nat.zero_add, Nat.zero_le, decide_eq_true_eq, Bool.not_eq_true', decide_eq_false_iff_not, ite_true, ite_false, Bool.if_false_right, Bool.if_true_left, decide_true, decide_false, Bool.true_or, Bool.or_true, Bool.false_or, Bool.or_false, Bool.true_and, Bool.and_true, Bool.false_and, Bool.and_false, List.length_map, not_true_eq_false, not_false_eq_true, false_and, and_false, bne_self_eq_false, Bool.not_eq_false]); exact dn_self q
  | lst z => (try simp only [isInt, lim, oOwn, oIsiC, view_bl, dep_bl, eqT_tt, eqT_ff, eqT_tf, eqT_ft, eDIn, eDGet, eDNew, eDc, keyT, eMakeX, eCallK, eRev, oRepr, eMeth, eProp, eFld, eMake, sRaise, sPar3, ends, startT, eVar, eC, eOp, tOf, eChain, tAndM, tOrM, tNotM, eAndV, eOrV, eNotV, eIf, aNil, aCons, eTup, eLst, eFrz, frzK, oI, oIC, oSub, oMod, oDiv, oPow, oLt, oLe, oGt, oGe, oAddI', oAddL, oMulI', oAdd, oMul, eNeg, oIsN, oNotN, oIx, atK, mNo, mPart, eSl, eCB, oLen, oInt, oSumL, oMax2, oMin2, oMax1, oMin1, oList, oBls, eCall, eBM, eBM0, isLs, oApp, oPop, oExt, lsOf, tTru, sNext, sSeq, sDrop, sRet, sRetN, sIf, sBreak, sCont, sNever, gN, gNil, gCons, gTup, setT, gSub, sAsg, sPar, sAug, oIxL, sAugS, oAddI, sFor, eLc, iSeq, iRange1, iRange2, iEnum, tYes, oIsi, kdOf, oEq, oNe, eqT_int, eqT_nn, eqT_in, eqT_ni,   atI_0, atI_1, atI_2, atI_3, atI_4, atI_5, atI_6, atI_7, atI_8, atI_m1, ixN_0, ixN_1,   kdN_int, kdN_bool, kdN_str, kdN_list, kdN_tuple, isK, view_int, view_non, dep_int, dep_non, cN, cN2, wipeT,   mk_true, mk_false, put_same, put_put,   List.map_cons, List.map_nil, List.length_cons, List.length_nil, List.replicate, List.cons_append, List.nil_append, List.append_nil, List.set_cons_zero, List.set_cons_succ, List.getElem?_cons_zero, List.getElem?_cons_succ, List.getElem?_nil, Nat.reduceAdd, Nat.reduceSub, Nat.reduceLeDiff, Nat.reduceLT, Nat.reduceEqDiff, Option.isSome_some, Option.isSome_none, true_and, and_true, if_true, if_false, Bool.false_eq_true, Bool.not_true, Bool.not_false, reduceCtorEq, Nat.zero_add, Nat.zero_le, decide_eq_true_eq, Bool.not_eq_true', decide_eq_false_iff_not, ite_true, ite_false, Bool.if_false_right, Bool.if_true_left, decide_true, decide_false, Bool.true_or, Bool.or_true, Bool.false_or, Bool.or_false, Bool.true_and, Bool.and_true, Bool.false_and, Bool.and_false, List.length_map, not_true_eq_false, not_false_eq_true, false_and, and_false, bne_self_eq_false, Bool.not_eq_false]); exact dn_self q
  | ins _ _ => cases hk
  | ty _ => cases hk
  | scr _ => cases hk
  | exc _ _ _ _ => cases hk
theorem sum_le {m : Int} : ∀ cs : List Int, (∀ c ∈ cs, c ≤ m) → cs.sum ≤ m * cs.length
  | [], _ => by simp
  | c :: cs, h => by
    have h1 := h c List.mem_cons_self
    have h2 := sum_le cs fun x hx => h x (List.mem_cons_of_mem _ hx)
    rw [List.sum_cons, List.length_cons]
    have : m * ((cs.length + 1 : Nat) : Int) = m * cs.length + m := by
      rw [Int.natCast_add, Int.mul_add]; omega
    omega
theorem getD_of {l : List Int} {i : Nat} {c : Int} (h : l[i]? = some c) : l.getD i 0 = c := by rw [List.getD_eq_getElem?_getD, h]; rfl
theorem ci_cln (n : Nat) (xs : List Int) : cln (n + 2) (.lst (xs.map T.int)) = true := by
  show (xs.map T.int).all (cln (n + 1)) = true
  rw [List.all_eq_true]
  intro t ht
  obtain ⟨i, _, rfl⟩ := List.mem_map.mp ht
  rfl
theorem eqT_refl {n : Nat} {x : T} (h : cln n x = true) : eqT x x = true := (eqT_iff n x x h h).mpr rfl
theorem lcK_any {fl : Bool} {ts : List T} {stay : Hq → Prop} {g : T → Sl → Option Sl} {el : EM} {s : Sl} {h : Hq} {Q : TK} (P : T → Prop) (hst : stay h) (hl : ts.length ≤ 1000000)
    (hs : ∀ t ∈ ts, ∀ R : TK, (∀ y, P y → R y h) → match g t s with
      | some s2 => el s2 h R E0
      | none => False) (hQ : ∀ ys : List T, ys.length = ts.length → (∀ y ∈ ys, P y) → mk fl ys h Q) : LcK fl ts stay g tYes el s h Q := by
  refine ⟨fun i acc h' => acc.length = i ∧ (∀ y ∈ acc, P y) ∧ h' = h, ⟨rfl, (fun _ z => nomatch z), rfl⟩, ?_⟩
  rintro i acc h' hi ⟨ha, hp, rfl⟩
  refine ⟨hst, ?_⟩
  cases e : ts[i]? with
  | none =>
    have := List.getElem?_eq_none_iff.mp e
    exact hQ acc (by omega) hp
  | some t =>
    have hi' : i < ts.length := (List.getElem?_eq_some_iff.mp e).1
    refine ⟨show acc.length < 1000000 by omega, ?_⟩
    have q := hs t (List.mem_of_getElem? e) (fun y h4 => (acc ++ [y]).length = i + 1 ∧ (∀ z ∈ acc ++ [y], P z) ∧ h4 = h') (fun y hy => ⟨by simp [ha], fun z hz => by
      rcases List.mem_append.mp hz with w | w
      · exact hp z w
      · have : z = y := by simpa using w
        rw [this]; exact hy, rfl⟩)
    cases es : g t s with
    | none => rw [es] at q; exact q.elim
    | some s2 => rw [es] at q; exact iteT (B := acc.length = i + 1 ∧ (∀ y ∈ acc, P y) ∧ h' = h') q
theorem ints_of {m : Int} : ∀ {ys : List T}, (∀ y ∈ ys, ∃ c : Int, y = .int c ∧ 0 ≤ c ∧ c ≤ m) → ∃ cs : List Int, ys = cs.map T.int ∧ ∀ c ∈ cs, 0 ≤ c ∧ c ≤ m
  | [], _ => ⟨[], rfl, fun _ z => nomatch z⟩
  | y :: ys, h => by
    obtain ⟨c, rfl, c0, c1⟩ := h y List.mem_cons_self
    obtain ⟨cs, rfl, hc⟩ := ints_of (ys := ys) fun z hz => h z (List.mem_cons_of_mem _ hz)
    refine ⟨c :: cs, rfl, fun x hx => ?_⟩
    rcases List.mem_cons.mp hx with rfl | z
    · exact ⟨c0, c1⟩
    · exact hc x z
theorem ints_map {stay : Hq → Prop} {s : Sl} {h : Hq} {Q : TK} {i : Nat} {cs : List Int} {own : List Nat} (hst : stay h) (hl : cs.length ≤ 1000000) (hg : ∀ c : Int, ∃ s2 : Sl, cN i own (.int c) s = some s2 ∧ s2[i]? = some (some (.int c))) (q : Q (.lst (cs.map T.int)) h) : LcK true (cs.map T.int) stay (cN i own) tYes (eCB oInt (aCons (eVar i) aNil)) s h Q := by
  refine lcK_mA (fun c => T.int c) hst hl (fun c hc R r => ?_) (by rw [mk_true]; exact q)
  obtain ⟨s2, e1, e2⟩ := hg c
  rw [e1]
  show eCB oInt (aCons (eVar i) aNil) s2 h R E0
  (try simp only [e2, lim, oOwn, oIsiC, view_bl, dep_bl, eqT_tt, eqT_ff, eqT_tf, eqT_ft, eDIn, eDGet, eDNew, eDc, keyT, eMakeX, eCallK, eRev, oRepr, eMeth, eProp, eFld, eMake, sRaise, sPar3, ends, startT, eVar, eC, eOp, tOf, eChain, tAndM, tOrM, tNotM, eAndV, eOrV, eNotV, eIf, aNil, aCons, eTup, eLst, eFrz, frzK, oI, oIC, oSub, oMod, oDiv, oPow, oLt, oLe, oGt, oGe, oAddI', oAddL, oMulI', oAdd, oMul, eNeg, oIsN, oNotN, oIx, atK, mNo, mPart, eSl, eCB, oLen, oInt, oSumL, oMax2, oMin2, oMax1, oMin1, oList, oBls, eCall, eBM, eBM0, isLs, oApp, oPop, oExt, lsOf, tTru, sNext, sSeq, sDrop, sRet, sRetN, sIf, sBreak, sCont, sNever, gN, gNil, gCons, gTup, setT, gSub, sAsg, sPar, sAug, oIxL, sAugS, oAddI, sFor, eLc, iSeq, iRange1, iRange2, iEnum, tYes, oIsi, kdOf, oEq, oNe, eqT_int, eqT_nn, eqT_in, eqT_ni,   atI_0, atI_1, atI_2, atI_3, atI_4, atI_5, atI_6, atI_7, atI_8, atI_m1, ixN_0, ixN_1,   kdN_int, kdN_bool, kdN_str, kdN_list, kdN_tuple, isK, view_int, view_non, dep_int, dep_non, cN, cN2, wipeT,   mk_true, mk_false, put_same, put_put,   List.map_cons, List.map_nil, List.length_cons, List.length_nil, List.replicate, List.cons_append, List.nil_append, List.append_nil, List.set_cons_zero, List.set_cons_succ, List.getElem?_cons_zero, List.getElem?_cons_succ, List.getElem?_nil, Nat.reduceAdd, Nat.reduceSub, Nat.reduceLeDiff, Nat.reduceLT, Nat.reduceEqDiff, Option.isSome_some, Option.isSome_none, true_and, and_true, if_true, if_false, Bool.false_eq_true, Bool.not_true, Bool.not_false, reduceCtorEq, Nat.zero_add, Nat.zero_le, decide_eq_true_eq, Bool.not_eq_true', decide_eq_false_iff_not, ite_true, ite_false, Bool.if_false_right, Bool.if_true_left, decide_true, decide_false, Bool.true_or, Bool.or_true, Bool.false_or, Bool.or_false, Bool.true_and, Bool.and_true, Bool.false_and, Bool.and_false, List.length_map, not_true_eq_false, not_false_eq_true, false_and, and_false, bne_self_eq_false, Bool.not_eq_false])
  exact r
theorem seq_gen {a b : SM} {D : En} {s : Sl} {h : Hq} (h1 : ∀ N : SK, (∀ s h, b D s h → N s h) → a { nx := N, rt := D.rt, bk := D.bk, ct := D.ct, ex := D.ex } s h) : sSeq a b D s h := h1 _ fun _ _ q => q
theorem gN_go {i : Nat} {t : T} {s : Sl} {h : Hq} {Q : SK} {E : EX} (q : Q (s.set i (some t)) h) : gN i t s h Q E := q
theorem cut_lo (xs : List T) (a : Nat) (h : a ≤ xs.length) : cutT xs none (some (a : Int)) = xs.take a := by
  unfold cutT
  rw [HT.sIx_none, HT.sIx_nat, Nat.min_eq_left (by omega), Nat.sub_zero, List.drop_zero]
theorem cut_hi (xs : List T) (a : Nat) (h : a < xs.length) : cutT xs (some ((a : Int) + 1)) none = xs.drop (a + 1) := by
  unfold cutT
  rw [HT.sIx_none, show ((a : Int) + 1) = ((a + 1 : Nat) : Int) by omega, HT.sIx_nat, Nat.min_eq_left (by omega)]
  rw [List.take_of_length_le (l := xs.drop (a + 1)) (by rw [List.length_drop]; omega)]
theorem getD_le {cs : List Int} {m : Int} (h0 : 0 ≤ m) (h : ∀ y ∈ cs, y ≤ m) (i : Nat) : cs.getD i 0 ≤ m := by
  rw [List.getD_eq_getElem?_getD]
  cases z : cs[i]? with
  | none => exact h0
  | some c => exact h c (List.mem_of_getElem? z)
theorem lookup_one (f : Str) (t : T) : List.lookup f [(f, t)] = some t := by simp [List.lookup]
theorem lk_first {f r t b : Int} : List.lookup ("own_first" : Str) (bkF f r t b) = some (.int f) := rfl
theorem lk_roof {f r t b : Int} : List.lookup ("own_roof" : Str) (bkF f r t b) = some (.int r) := rfl
theorem lk_share {f r t b : Int} : List.lookup ("own_share" : Str) (bkF f r t b) = some (shT t b) := rfl
theorem lk_given {f r t b : Int} : List.lookup ("given" : Str) (bkF f r t b) = none := rfl
theorem lk_step {f r t b : Int} : List.lookup ("step" : Str) (bkF f r t b) = none := rfl
theorem p30 : (1000000000000000000000000000000 : Int) = 10 ^ 30 := by decide
theorem p40 : (10000000000000000000000000000000000000000 : Int) = 10 ^ 40 := by decide
section
variable {K : PySem.W.Frag} {mg : Str → Option Value} {a : Ad}
theorem pl_part_of : ∀ ts h Q E, ts.length = 2 → C_part_of ts h Q E → B_part_of (ends Q E) (startT N_part_of.length ts) h := by
  rintro ts h Q E - ⟨t, b, k, rfl, t1, t2, b1, b2, q⟩
  unfold B_part_of
  (try simp only [shT, lim, oOwn, oIsiC, view_bl, dep_bl, eqT_tt, eqT_ff, eqT_tf, eqT_ft, eDIn, eDGet, eDNew, eDc, keyT, eMakeX, eCallK, eRev, oRepr, eMeth, eProp, eFld, eMake, sRaise, sPar3, ends, startT, eVar, eC, eOp, tOf, eChain, tAndM, tOrM, tNotM, eAndV, eOrV, eNotV, eIf, aNil, aCons, eTup, eLst, eFrz, frzK, oI, oIC, oSub, oMod, oDiv, oPow, oLt, oLe, oGt, oGe, oAddI', oAddL, oMulI', oAdd, oMul, eNeg, oIsN, oNotN, oIx, atK, mNo, mPart, eSl, eCB, oLen, oInt, oSumL, oMax2, oMin2, oMax1, oMin1, oList, oBls, eCall, eBM, eBM0, isLs, oApp, oPop, oExt, lsOf, tTru, sNext, sSeq, sDrop, sRet, sRetN, sIf, sBreak, sCont, sNever, gN, gNil, gCons, gTup, setT, gSub, sAsg, sPar, sAug, oIxL, sAugS, oAddI, sFor, eLc, iSeq, iRange1, iRange2, iEnum, tYes, oIsi, kdOf, oEq, oNe, eqT_int, eqT_nn, eqT_in, eqT_ni,   atI_0, atI_1, atI_2, atI_3, atI_4, atI_5, atI_6, atI_7, atI_8, atI_m1, ixN_0, ixN_1,   kdN_int, kdN_bool, kdN_str, kdN_list, kdN_tuple, isK, view_int, view_non, dep_int, dep_non, cN, cN2, wipeT,   mk_true, mk_false, put_same, put_put,   List.map_cons, List.map_nil, List.length_cons, List.length_nil, List.replicate, List.cons_append, List.nil_append, List.append_nil, List.set_cons_zero, List.set_cons_succ, List.getElem?_cons_zero, List.getElem?_cons_succ, List.getElem?_nil, Nat.reduceAdd, Nat.reduceSub, Nat.reduceLeDiff, Nat.reduceLT, Nat.reduceEqDiff, Option.isSome_some, Option.isSome_none, true_and, and_true, if_true, if_false, Bool.false_eq_true, Bool.not_true, Bool.not_false, reduceCtorEq, Nat.zero_add, Nat.zero_le, decide_eq_true_eq, Bool.not_eq_true', decide_eq_false_iff_not, ite_true, ite_false, Bool.if_false_right, Bool.if_true_left, decide_true, decide_false, Bool.true_or, Bool.or_true, Bool.false_or, Bool.or_false, Bool.true_and, Bool.and_true, Bool.false_and, Bool.and_false, List.length_map, not_true_eq_false, not_false_eq_true, false_and, and_false, bne_self_eq_false, Bool.not_eq_false])
  exact ⟨.inr (.inl (by omega)), ⟨by omega, by omega⟩, dn_self q⟩
theorem pl_is_share : ∀ ts h Q E, ts.length = 1 → C_is_share ts h Q E → B_is_share (ends Q E) (startT N_is_share.length ts) h := by
  rintro ts h Q E - ⟨t, b, rfl, t1, t2, b1, b2, q⟩
  unfold B_is_share
  have e2 : ((2 : Nat) : Int) = 2 := rfl
  (try simp only [shT, C_is_integer, e2, lim, oOwn, oIsiC, view_bl, dep_bl, eqT_tt, eqT_ff, eqT_tf, eqT_ft, eDIn, eDGet, eDNew, eDc, keyT, eMakeX, eCallK, eRev, oRepr, eMeth, eProp, eFld, eMake, sRaise, sPar3, ends, startT, eVar, eC, eOp, tOf, eChain, tAndM, tOrM, tNotM, eAndV, eOrV, eNotV, eIf, aNil, aCons, eTup, eLst, eFrz, frzK, oI, oIC, oSub, oMod, oDiv, oPow, oLt, oLe, oGt, oGe, oAddI', oAddL, oMulI', oAdd, oMul, eNeg, oIsN, oNotN, oIx, atK, mNo, mPart, eSl, eCB, oLen, oInt, oSumL, oMax2, oMin2, oMax1, oMin1, oList, oBls, eCall, eBM, eBM0, isLs, oApp, oPop, oExt, lsOf, tTru, sNext, sSeq, sDrop, sRet, sRetN, sIf, sBreak, sCont, sNever, gN, gNil, gCons, gTup, setT, gSub, sAsg, sPar, sAug, oIxL, sAugS, oAddI, sFor, eLc, iSeq, iRange1, iRange2, iEnum, tYes, oIsi, kdOf, oEq, oNe, eqT_int, eqT_nn, eqT_in, eqT_ni,   atI_0, atI_1, atI_2, atI_3, atI_4, atI_5, atI_6, atI_7, atI_8, atI_m1, ixN_0, ixN_1,   kdN_int, kdN_bool, kdN_str, kdN_list, kdN_tuple, isK, view_int, view_non, dep_int, dep_non, cN, cN2, wipeT,   mk_true, mk_false, put_same, put_put,   List.map_cons, List.map_nil, List.length_cons, List.length_nil, List.replicate, List.cons_append, List.nil_append, List.append_nil, List.set_cons_zero, List.set_cons_succ, List.getElem?_cons_zero, List.getElem?_cons_succ, List.getElem?_nil, Nat.reduceAdd, Nat.reduceSub, Nat.reduceLeDiff, Nat.reduceLT, Nat.reduceEqDiff, Option.isSome_some, Option.isSome_none, true_and, and_true, if_true, if_false, Bool.false_eq_true, Bool.not_true, Bool.not_false, reduceCtorEq, Nat.zero_add, Nat.zero_le, decide_eq_true_eq, Bool.not_eq_true', decide_eq_false_iff_not, ite_true, ite_false, Bool.if_false_right, Bool.if_true_left, decide_true, decide_false, Bool.true_or, Bool.or_true, Bool.false_or, Bool.or_false, Bool.true_and, Bool.and_true, Bool.false_and, Bool.and_false, List.length_map, not_true_eq_false, not_false_eq_true, false_and, and_false, bne_self_eq_false, Bool.not_eq_false])
  refine ⟨_, 1, 100, .int, rfl, rfl, ?_⟩
  (try simp only [isInt, t1, t2, lim, oOwn, oIsiC, view_bl, dep_bl, eqT_tt, eqT_ff, eqT_tf, eqT_ft, eDIn, eDGet, eDNew, eDc, keyT, eMakeX, eCallK, eRev, oRepr, eMeth, eProp, eFld, eMake, sRaise, sPar3, ends, startT, eVar, eC, eOp, tOf, eChain, tAndM, tOrM, tNotM, eAndV, eOrV, eNotV, eIf, aNil, aCons, eTup, eLst, eFrz, frzK, oI, oIC, oSub, oMod, oDiv, oPow, oLt, oLe, oGt, oGe, oAddI', oAddL, oMulI', oAdd, oMul, eNeg, oIsN, oNotN, oIx, atK, mNo, mPart, eSl, eCB, oLen, oInt, oSumL, oMax2, oMin2, oMax1, oMin1, oList, oBls, eCall, eBM, eBM0, isLs, oApp, oPop, oExt, lsOf, tTru, sNext, sSeq, sDrop, sRet, sRetN, sIf, sBreak, sCont, sNever, gN, gNil, gCons, gTup, setT, gSub, sAsg, sPar, sAug, oIxL, sAugS, oAddI, sFor, eLc, iSeq, iRange1, iRange2, iEnum, tYes, oIsi, kdOf, oEq, oNe, eqT_int, eqT_nn, eqT_in, eqT_ni,   atI_0, atI_1, atI_2, atI_3, atI_4, atI_5, atI_6, atI_7, atI_8, atI_m1, ixN_0, ixN_1,   kdN_int, kdN_bool, kdN_str, kdN_list, kdN_tuple, isK, view_int, view_non, dep_int, dep_non, cN, cN2, wipeT,   mk_true, mk_false, put_same, put_put,   List.map_cons, List.map_nil, List.length_cons, List.length_nil, List.replicate, List.cons_append, List.nil_append, List.append_nil, List.set_cons_zero, List.set_cons_succ, List.getElem?_cons_zero, List.getElem?_cons_succ, List.getElem?_nil, Nat.reduceAdd, Nat.reduceSub, Nat.reduceLeDiff, Nat.reduceLT, Nat.reduceEqDiff, Option.isSome_some, Option.isSome_none, true_and, and_true, if_true, if_false, Bool.false_eq_true, Bool.not_true, Bool.not_false, reduceCtorEq, Nat.zero_add, Nat.zero_le, decide_eq_true_eq, Bool.not_eq_true', decide_eq_false_iff_not, ite_true, ite_false, Bool.if_false_right, Bool.if_true_left, decide_true, decide_false, Bool.true_or, Bool.or_true, Bool.false_or, Bool.or_false, Bool.true_and, Bool.and_true, Bool.false_and, Bool.and_false, List.length_map, not_true_eq_false, not_false_eq_true, false_and, and_false, bne_self_eq_false, Bool.not_eq_false])
  refine ⟨_, 1, 100, .int, rfl, rfl, ?_⟩
  (try simp only [isInt, b1, b2, lim, oOwn, oIsiC, view_bl, dep_bl, eqT_tt, eqT_ff, eqT_tf, eqT_ft, eDIn, eDGet, eDNew, eDc, keyT, eMakeX, eCallK, eRev, oRepr, eMeth, eProp, eFld, eMake, sRaise, sPar3, ends, startT, eVar, eC, eOp, tOf, eChain, tAndM, tOrM, tNotM, eAndV, eOrV, eNotV, eIf, aNil, aCons, eTup, eLst, eFrz, frzK, oI, oIC, oSub, oMod, oDiv, oPow, oLt, oLe, oGt, oGe, oAddI', oAddL, oMulI', oAdd, oMul, eNeg, oIsN, oNotN, oIx, atK, mNo, mPart, eSl, eCB, oLen, oInt, oSumL, oMax2, oMin2, oMax1, oMin1, oList, oBls, eCall, eBM, eBM0, isLs, oApp, oPop, oExt, lsOf, tTru, sNext, sSeq, sDrop, sRet, sRetN, sIf, sBreak, sCont, sNever, gN, gNil, gCons, gTup, setT, gSub, sAsg, sPar, sAug, oIxL, sAugS, oAddI, sFor, eLc, iSeq, iRange1, iRange2, iEnum, tYes, oIsi, kdOf, oEq, oNe, eqT_int, eqT_nn, eqT_in, eqT_ni,   atI_0, atI_1, atI_2, atI_3, atI_4, atI_5, atI_6, atI_7, atI_8, atI_m1, ixN_0, ixN_1,   kdN_int, kdN_bool, kdN_str, kdN_list, kdN_tuple, isK, view_int, view_non, dep_int, dep_non, cN, cN2, wipeT,   mk_true, mk_false, put_same, put_put,   List.map_cons, List.map_nil, List.length_cons, List.length_nil, List.replicate, List.cons_append, List.nil_append, List.append_nil, List.set_cons_zero, List.set_cons_succ, List.getElem?_cons_zero, List.getElem?_cons_succ, List.getElem?_nil, Nat.reduceAdd, Nat.reduceSub, Nat.reduceLeDiff, Nat.reduceLT, Nat.reduceEqDiff, Option.isSome_some, Option.isSome_none, true_and, and_true, if_true, if_false, Bool.false_eq_true, Bool.not_true, Bool.not_false, reduceCtorEq, Nat.zero_add, Nat.zero_le, decide_eq_true_eq, Bool.not_eq_true', decide_eq_false_iff_not, ite_true, ite_false, Bool.if_false_right, Bool.if_true_left, decide_true, decide_false, Bool.true_or, Bool.or_true, Bool.false_or, Bool.or_false, Bool.true_and, Bool.and_true, Bool.false_and, Bool.and_false, List.length_map, not_true_eq_false, not_false_eq_true, false_and, and_false, bne_self_eq_false, Bool.not_eq_false])
  exact dn_self q
theorem pl_check_parts (Z : Tx K mg a) : ∀ ts h Q E, ts.length = 4 → C_check_parts ts h Q E → B_check_parts K a (ends Q E) (startT N_check_parts.length ts) h := by
  rintro ts h Q E - ⟨f, r, t, b, x, rfl, o, q⟩
  unfold B_check_parts
  obtain ⟨f1, fr, r1, t1, t2, b1, b2⟩ := o
  have f2 : f ≤ 10 ^ 30 := by omega
  have r0 : 1 ≤ r := by omega
  have nr : ¬ r < f := by omega
  (try simp only [C_is_integer, p30, lim, oOwn, oIsiC, view_bl, dep_bl, eqT_tt, eqT_ff, eqT_tf, eqT_ft, eDIn, eDGet, eDNew, eDc, keyT, eMakeX, eCallK, eRev, oRepr, eMeth, eProp, eFld, eMake, sRaise, sPar3, ends, startT, eVar, eC, eOp, tOf, eChain, tAndM, tOrM, tNotM, eAndV, eOrV, eNotV, eIf, aNil, aCons, eTup, eLst, eFrz, frzK, oI, oIC, oSub, oMod, oDiv, oPow, oLt, oLe, oGt, oGe, oAddI', oAddL, oMulI', oAdd, oMul, eNeg, oIsN, oNotN, oIx, atK, mNo, mPart, eSl, eCB, oLen, oInt, oSumL, oMax2, oMin2, oMax1, oMin1, oList, oBls, eCall, eBM, eBM0, isLs, oApp, oPop, oExt, lsOf, tTru, sNext, sSeq, sDrop, sRet, sRetN, sIf, sBreak, sCont, sNever, gN, gNil, gCons, gTup, setT, gSub, sAsg, sPar, sAug, oIxL, sAugS, oAddI, sFor, eLc, iSeq, iRange1, iRange2, iEnum, tYes, oIsi, kdOf, oEq, oNe, eqT_int, eqT_nn, eqT_in, eqT_ni,   atI_0, atI_1, atI_2, atI_3, atI_4, atI_5, atI_6, atI_7, atI_8, atI_m1, ixN_0, ixN_1,   kdN_int, kdN_bool, kdN_str, kdN_list, kdN_tuple, isK, view_int, view_non, dep_int, dep_non, cN, cN2, wipeT,   mk_true, mk_false, put_same, put_put,   List.map_cons, List.map_nil, List.length_cons, List.length_nil, List.replicate, List.cons_append, List.nil_append, List.append_nil, List.set_cons_zero, List.set_cons_succ, List.getElem?_cons_zero, List.getElem?_cons_succ, List.getElem?_nil, Nat.reduceAdd, Nat.reduceSub, Nat.reduceLeDiff, Nat.reduceLT, Nat.reduceEqDiff, Option.isSome_some, Option.isSome_none, true_and, and_true, if_true, if_false, Bool.false_eq_true, Bool.not_true, Bool.not_false, reduceCtorEq, Nat.zero_add, Nat.zero_le, decide_eq_true_eq, Bool.not_eq_true', decide_eq_false_iff_not, ite_true, ite_false, Bool.if_false_right, Bool.if_true_left, decide_true, decide_false, Bool.true_or, Bool.or_true, Bool.false_or, Bool.or_false, Bool.true_and, Bool.and_true, Bool.false_and, Bool.and_false, List.length_map, not_true_eq_false, not_false_eq_true, false_and, and_false, bne_self_eq_false, Bool.not_eq_false])
  refine ⟨_, 1, _, .int, rfl, rfl, ?_⟩
  (try simp only [isInt, f1, f2, lim, oOwn, oIsiC, view_bl, dep_bl, eqT_tt, eqT_ff, eqT_tf, eqT_ft, eDIn, eDGet, eDNew, eDc, keyT, eMakeX, eCallK, eRev, oRepr, eMeth, eProp, eFld, eMake, sRaise, sPar3, ends, startT, eVar, eC, eOp, tOf, eChain, tAndM, tOrM, tNotM, eAndV, eOrV, eNotV, eIf, aNil, aCons, eTup, eLst, eFrz, frzK, oI, oIC, oSub, oMod, oDiv, oPow, oLt, oLe, oGt, oGe, oAddI', oAddL, oMulI', oAdd, oMul, eNeg, oIsN, oNotN, oIx, atK, mNo, mPart, eSl, eCB, oLen, oInt, oSumL, oMax2, oMin2, oMax1, oMin1, oList, oBls, eCall, eBM, eBM0, isLs, oApp, oPop, oExt, lsOf, tTru, sNext, sSeq, sDrop, sRet, sRetN, sIf, sBreak, sCont, sNever, gN, gNil, gCons, gTup, setT, gSub, sAsg, sPar, sAug, oIxL, sAugS, oAddI, sFor, eLc, iSeq, iRange1, iRange2, iEnum, tYes, oIsi, kdOf, oEq, oNe, eqT_int, eqT_nn, eqT_in, eqT_ni,   atI_0, atI_1, atI_2, atI_3, atI_4, atI_5, atI_6, atI_7, atI_8, atI_m1, ixN_0, ixN_1,   kdN_int, kdN_bool, kdN_str, kdN_list, kdN_tuple, isK, view_int, view_non, dep_int, dep_non, cN, cN2, wipeT,   mk_true, mk_false, put_same, put_put,   List.map_cons, List.map_nil, List.length_cons, List.length_nil, List.replicate, List.cons_append, List.nil_append, List.append_nil, List.set_cons_zero, List.set_cons_succ, List.getElem?_cons_zero, List.getElem?_cons_succ, List.getElem?_nil, Nat.reduceAdd, Nat.reduceSub, Nat.reduceLeDiff, Nat.reduceLT, Nat.reduceEqDiff, Option.isSome_some, Option.isSome_none, true_and, and_true, if_true, if_false, Bool.false_eq_true, Bool.not_true, Bool.not_false, reduceCtorEq, Nat.zero_add, Nat.zero_le, decide_eq_true_eq, Bool.not_eq_true', decide_eq_false_iff_not, ite_true, ite_false, Bool.if_false_right, Bool.if_true_left, decide_true, decide_false, Bool.true_or, Bool.or_true, Bool.false_or, Bool.or_false, Bool.true_and, Bool.and_true, Bool.false_and, Bool.and_false, List.length_map, not_true_eq_false, not_false_eq_true, false_and, and_false, bne_self_eq_false, Bool.not_eq_false])
  refine ⟨_, 1, _, .int, rfl, rfl, ?_⟩
  (try simp only [isInt, r0, r1, nr, C_is_share, lim, oOwn, oIsiC, view_bl, dep_bl, eqT_tt, eqT_ff, eqT_tf, eqT_ft, eDIn, eDGet, eDNew, eDc, keyT, eMakeX, eCallK, eRev, oRepr, eMeth, eProp, eFld, eMake, sRaise, sPar3, ends, startT, eVar, eC, eOp, tOf, eChain, tAndM, tOrM, tNotM, eAndV, eOrV, eNotV, eIf, aNil, aCons, eTup, eLst, eFrz, frzK, oI, oIC, oSub, oMod, oDiv, oPow, oLt, oLe, oGt, oGe, oAddI', oAddL, oMulI', oAdd, oMul, eNeg, oIsN, oNotN, oIx, atK, mNo, mPart, eSl, eCB, oLen, oInt, oSumL, oMax2, oMin2, oMax1, oMin1, oList, oBls, eCall, eBM, eBM0, isLs, oApp, oPop, oExt, lsOf, tTru, sNext, sSeq, sDrop, sRet, sRetN, sIf, sBreak, sCont, sNever, gN, gNil, gCons, gTup, setT, gSub, sAsg, sPar, sAug, oIxL, sAugS, oAddI, sFor, eLc, iSeq, iRange1, iRange2, iEnum, tYes, oIsi, kdOf, oEq, oNe, eqT_int, eqT_nn, eqT_in, eqT_ni,   atI_0, atI_1, atI_2, atI_3, atI_4, atI_5, atI_6, atI_7, atI_8, atI_m1, ixN_0, ixN_1,   kdN_int, kdN_bool, kdN_str, kdN_list, kdN_tuple, isK, view_int, view_non, dep_int, dep_non, cN, cN2, wipeT,   mk_true, mk_false, put_same, put_put,   List.map_cons, List.map_nil, List.length_cons, List.length_nil, List.replicate, List.cons_append, List.nil_append, List.append_nil, List.set_cons_zero, List.set_cons_succ, List.getElem?_cons_zero, List.getElem?_cons_succ, List.getElem?_nil, Nat.reduceAdd, Nat.reduceSub, Nat.reduceLeDiff, Nat.reduceLT, Nat.reduceEqDiff, Option.isSome_some, Option.isSome_none, true_and, and_true, if_true, if_false, Bool.false_eq_true, Bool.not_true, Bool.not_false, reduceCtorEq, Nat.zero_add, Nat.zero_le, decide_eq_true_eq, Bool.not_eq_true', decide_eq_false_iff_not, ite_true, ite_false, Bool.if_false_right, Bool.if_true_left, decide_true, decide_false, Bool.true_or, Bool.or_true, Bool.false_or, Bool.or_false, Bool.true_and, Bool.and_true, Bool.false_and, Bool.and_false, List.length_map, not_true_eq_false, not_false_eq_true, false_and, and_false, bne_self_eq_false, Bool.not_eq_false])
  exact ⟨t, b, rfl, t1, t2, b1, b2, dn_self q⟩
theorem pt1 {x : T} : putT ("own_first" : Str) x [] = [(("own_first" : Str), x)] := rfl
theorem pt2 {x y : T} : putT ("own_roof" : Str) y [(("own_first" : Str), x)] = [(("own_first" : Str), x), (("own_roof" : Str), y)] := rfl
theorem pt3 {x y z : T} : putT ("own_share" : Str) z [(("own_first" : Str), x), (("own_roof" : Str), y)] = [(("own_first" : Str), x), (("own_roof" : Str), y), (("own_share" : Str), z)] := rfl
theorem pl_Book___init__ (Z : Tx K mg a) : ∀ ts h Q E, ts.length = 4 → C_Book___init__ a ts h Q E → B_Book___init__ K a (ends Q E) (startT N_Book___init__.length ts) h := by
  rintro ts h Q E - ⟨p, f, r, t, b, rfl, o, hp, q⟩
  unfold B_Book___init__
  (try simp only [C_check_parts, lim, oOwn, oIsiC, view_bl, dep_bl, eqT_tt, eqT_ff, eqT_tf, eqT_ft, eDIn, eDGet, eDNew, eDc, keyT, eMakeX, eCallK, eRev, oRepr, eMeth, eProp, eFld, eMake, sRaise, sPar3, ends, startT, eVar, eC, eOp, tOf, eChain, tAndM, tOrM, tNotM, eAndV, eOrV, eNotV, eIf, aNil, aCons, eTup, eLst, eFrz, frzK, oI, oIC, oSub, oMod, oDiv, oPow, oLt, oLe, oGt, oGe, oAddI', oAddL, oMulI', oAdd, oMul, eNeg, oIsN, oNotN, oIx, atK, mNo, mPart, eSl, eCB, oLen, oInt, oSumL, oMax2, oMin2, oMax1, oMin1, oList, oBls, eCall, eBM, eBM0, isLs, oApp, oPop, oExt, lsOf, tTru, sNext, sSeq, sDrop, sRet, sRetN, sIf, sBreak, sCont, sNever, gN, gNil, gCons, gTup, setT, gSub, sAsg, sPar, sAug, oIxL, sAugS, oAddI, sFor, eLc, iSeq, iRange1, iRange2, iEnum, tYes, oIsi, kdOf, oEq, oNe, eqT_int, eqT_nn, eqT_in, eqT_ni,   atI_0, atI_1, atI_2, atI_3, atI_4, atI_5, atI_6, atI_7, atI_8, atI_m1, ixN_0, ixN_1,   kdN_int, kdN_bool, kdN_str, kdN_list, kdN_tuple, isK, view_int, view_non, dep_int, dep_non, cN, cN2, wipeT,   mk_true, mk_false, put_same, put_put,   List.map_cons, List.map_nil, List.length_cons, List.length_nil, List.replicate, List.cons_append, List.nil_append, List.append_nil, List.set_cons_zero, List.set_cons_succ, List.getElem?_cons_zero, List.getElem?_cons_succ, List.getElem?_nil, Nat.reduceAdd, Nat.reduceSub, Nat.reduceLeDiff, Nat.reduceLT, Nat.reduceEqDiff, Option.isSome_some, Option.isSome_none, true_and, and_true, if_true, if_false, Bool.false_eq_true, Bool.not_true, Bool.not_false, reduceCtorEq, Nat.zero_add, Nat.zero_le, decide_eq_true_eq, Bool.not_eq_true', decide_eq_false_iff_not, ite_true, ite_false, Bool.if_false_right, Bool.if_true_left, decide_true, decide_false, Bool.true_or, Bool.or_true, Bool.false_or, Bool.or_false, Bool.true_and, Bool.and_true, Bool.false_and, Bool.and_false, List.length_map, not_true_eq_false, not_false_eq_true, false_and, and_false, bne_self_eq_false, Bool.not_eq_false])
  refine ⟨f, r, t, b, _, rfl, o, ?_⟩
  (try simp only [sFldT, hp, pt1, pt2, pt3, lim, oOwn, oIsiC, view_bl, dep_bl, eqT_tt, eqT_ff, eqT_tf, eqT_ft, eDIn, eDGet, eDNew, eDc, keyT, eMakeX, eCallK, eRev, oRepr, eMeth, eProp, eFld, eMake, sRaise, sPar3, ends, startT, eVar, eC, eOp, tOf, eChain, tAndM, tOrM, tNotM, eAndV, eOrV, eNotV, eIf, aNil, aCons, eTup, eLst, eFrz, frzK, oI, oIC, oSub, oMod, oDiv, oPow, oLt, oLe, oGt, oGe, oAddI', oAddL, oMulI', oAdd, oMul, eNeg, oIsN, oNotN, oIx, atK, mNo, mPart, eSl, eCB, oLen, oInt, oSumL, oMax2, oMin2, oMax1, oMin1, oList, oBls, eCall, eBM, eBM0, isLs, oApp, oPop, oExt, lsOf, tTru, sNext, sSeq, sDrop, sRet, sRetN, sIf, sBreak, sCont, sNever, gN, gNil, gCons, gTup, setT, gSub, sAsg, sPar, sAug, oIxL, sAugS, oAddI, sFor, eLc, iSeq, iRange1, iRange2, iEnum, tYes, oIsi, kdOf, oEq, oNe, eqT_int, eqT_nn, eqT_in, eqT_ni,   atI_0, atI_1, atI_2, atI_3, atI_4, atI_5, atI_6, atI_7, atI_8, atI_m1, ixN_0, ixN_1,   kdN_int, kdN_bool, kdN_str, kdN_list, kdN_tuple, isK, view_int, view_non, dep_int, dep_non, cN, cN2, wipeT,   mk_true, mk_false, put_same, put_put,   List.map_cons, List.map_nil, List.length_cons, List.length_nil, List.replicate, List.cons_append, List.nil_append, List.append_nil, List.set_cons_zero, List.set_cons_succ, List.getElem?_cons_zero, List.getElem?_cons_succ, List.getElem?_nil, Nat.reduceAdd, Nat.reduceSub, Nat.reduceLeDiff, Nat.reduceLT, Nat.reduceEqDiff, Option.isSome_some, Option.isSome_none, true_and, and_true, if_true, if_false, Bool.false_eq_true, Bool.not_true, Bool.not_false, reduceCtorEq, Nat.zero_add, Nat.zero_le, decide_eq_true_eq, Bool.not_eq_true', decide_eq_false_iff_not, ite_true, ite_false, Bool.if_false_right, Bool.if_true_left, decide_true, decide_false, Bool.true_or, Bool.or_true, Bool.false_or, Bool.or_false, Bool.true_and, Bool.and_true, Bool.false_and, Bool.and_false, List.length_map, not_true_eq_false, not_false_eq_true, false_and, and_false, bne_self_eq_false, Bool.not_eq_false])
  exact dn_self q
theorem lk_parts {f r t b : Int} : (bkF f r t b).lookup ("parts" : Str) = none := rfl
theorem pl_least_hold : ∀ ts h Q E, ts.length = 2 → C_least_hold ts h Q E → B_least_hold (ends Q E) (startT N_least_hold.length ts) h := by
  rintro ts h Q E - ⟨t, b, m, rfl, t1, t2, b1, b2, q⟩
  unfold B_least_hold
  (try simp only [shT, lim, oOwn, oIsiC, view_bl, dep_bl, eqT_tt, eqT_ff, eqT_tf, eqT_ft, eDIn, eDGet, eDNew, eDc, keyT, eMakeX, eCallK, eRev, oRepr, eMeth, eProp, eFld, eMake, sRaise, sPar3, ends, startT, eVar, eC, eOp, tOf, eChain, tAndM, tOrM, tNotM, eAndV, eOrV, eNotV, eIf, aNil, aCons, eTup, eLst, eFrz, frzK, oI, oIC, oSub, oMod, oDiv, oPow, oLt, oLe, oGt, oGe, oAddI', oAddL, oMulI', oAdd, oMul, eNeg, oIsN, oNotN, oIx, atK, mNo, mPart, eSl, eCB, oLen, oInt, oSumL, oMax2, oMin2, oMax1, oMin1, oList, oBls, eCall, eBM, eBM0, isLs, oApp, oPop, oExt, lsOf, tTru, sNext, sSeq, sDrop, sRet, sRetN, sIf, sBreak, sCont, sNever, gN, gNil, gCons, gTup, setT, gSub, sAsg, sPar, sAug, oIxL, sAugS, oAddI, sFor, eLc, iSeq, iRange1, iRange2, iEnum, tYes, oIsi, kdOf, oEq, oNe, eqT_int, eqT_nn, eqT_in, eqT_ni,   atI_0, atI_1, atI_2, atI_3, atI_4, atI_5, atI_6, atI_7, atI_8, atI_m1, ixN_0, ixN_1,   kdN_int, kdN_bool, kdN_str, kdN_list, kdN_tuple, isK, view_int, view_non, dep_int, dep_non, cN, cN2, wipeT,   mk_true, mk_false, put_same, put_put,   List.map_cons, List.map_nil, List.length_cons, List.length_nil, List.replicate, List.cons_append, List.nil_append, List.append_nil, List.set_cons_zero, List.set_cons_succ, List.getElem?_cons_zero, List.getElem?_cons_succ, List.getElem?_nil, Nat.reduceAdd, Nat.reduceSub, Nat.reduceLeDiff, Nat.reduceLT, Nat.reduceEqDiff, Option.isSome_some, Option.isSome_none, true_and, and_true, if_true, if_false, Bool.false_eq_true, Bool.not_true, Bool.not_false, reduceCtorEq, Nat.zero_add, Nat.zero_le, decide_eq_true_eq, Bool.not_eq_true', decide_eq_false_iff_not, ite_true, ite_false, Bool.if_false_right, Bool.if_true_left, decide_true, decide_false, Bool.true_or, Bool.or_true, Bool.false_or, Bool.or_false, Bool.true_and, Bool.and_true, Bool.false_and, Bool.and_false, List.length_map, not_true_eq_false, not_false_eq_true, false_and, and_false, bne_self_eq_false, Bool.not_eq_false])
  exact ⟨.inr (.inl (by omega)), ⟨by omega, by omega⟩, dn_self q⟩
theorem pl_Book_parts (Z : Tx K mg a) : ∀ ts h Q E, ts.length = 1 → C_Book_parts a ts h Q E → B_Book_parts K a (ends Q E) (startT N_Book_parts.length ts) h := by
  rintro ts h Q E - ⟨x, f, r, t, b, rfl, hx, q⟩
  unfold B_Book_parts
  unfold Bk at hx
  (try simp only [eFld, hx, lk_first, lk_roof, lk_share, lim, oOwn, oIsiC, view_bl, dep_bl, eqT_tt, eqT_ff, eqT_tf, eqT_ft, eDIn, eDGet, eDNew, eDc, keyT, eMakeX, eCallK, eRev, oRepr, eMeth, eProp, eFld, eMake, sRaise, sPar3, ends, startT, eVar, eC, eOp, tOf, eChain, tAndM, tOrM, tNotM, eAndV, eOrV, eNotV, eIf, aNil, aCons, eTup, eLst, eFrz, frzK, oI, oIC, oSub, oMod, oDiv, oPow, oLt, oLe, oGt, oGe, oAddI', oAddL, oMulI', oAdd, oMul, eNeg, oIsN, oNotN, oIx, atK, mNo, mPart, eSl, eCB, oLen, oInt, oSumL, oMax2, oMin2, oMax1, oMin1, oList, oBls, eCall, eBM, eBM0, isLs, oApp, oPop, oExt, lsOf, tTru, sNext, sSeq, sDrop, sRet, sRetN, sIf, sBreak, sCont, sNever, gN, gNil, gCons, gTup, setT, gSub, sAsg, sPar, sAug, oIxL, sAugS, oAddI, sFor, eLc, iSeq, iRange1, iRange2, iEnum, tYes, oIsi, kdOf, oEq, oNe, eqT_int, eqT_nn, eqT_in, eqT_ni,   atI_0, atI_1, atI_2, atI_3, atI_4, atI_5, atI_6, atI_7, atI_8, atI_m1, ixN_0, ixN_1,   kdN_int, kdN_bool, kdN_str, kdN_list, kdN_tuple, isK, view_int, view_non, dep_int, dep_non, cN, cN2, wipeT,   mk_true, mk_false, put_same, put_put,   List.map_cons, List.map_nil, List.length_cons, List.length_nil, List.replicate, List.cons_append, List.nil_append, List.append_nil, List.set_cons_zero, List.set_cons_succ, List.getElem?_cons_zero, List.getElem?_cons_succ, List.getElem?_nil, Nat.reduceAdd, Nat.reduceSub, Nat.reduceLeDiff, Nat.reduceLT, Nat.reduceEqDiff, Option.isSome_some, Option.isSome_none, true_and, and_true, if_true, if_false, Bool.false_eq_true, Bool.not_true, Bool.not_false, reduceCtorEq, Nat.zero_add, Nat.zero_le, decide_eq_true_eq, Bool.not_eq_true', decide_eq_false_iff_not, ite_true, ite_false, Bool.if_false_right, Bool.if_true_left, decide_true, decide_false, Bool.true_or, Bool.or_true, Bool.false_or, Bool.or_false, Bool.true_and, Bool.and_true, Bool.false_and, Bool.and_false, List.length_map, not_true_eq_false, not_false_eq_true, false_and, and_false, bne_self_eq_false, Bool.not_eq_false])
  exact dn_self q
theorem pl_law_step : ∀ ts h Q E, ts.length = 2 → C_law_step ts h Q E → B_law_step (ends Q E) (startT N_law_step.length ts) h := by
  rintro ts h Q E - ⟨f, r, t, b, k, rfl, o, q⟩
  unfold B_law_step
  obtain ⟨f1, fr, r1, t1, t2, b1, b2⟩ := o
  (try simp only [ptT, shT, lim, oOwn, oIsiC, view_bl, dep_bl, eqT_tt, eqT_ff, eqT_tf, eqT_ft, eDIn, eDGet, eDNew, eDc, keyT, eMakeX, eCallK, eRev, oRepr, eMeth, eProp, eFld, eMake, sRaise, sPar3, ends, startT, eVar, eC, eOp, tOf, eChain, tAndM, tOrM, tNotM, eAndV, eOrV, eNotV, eIf, aNil, aCons, eTup, eLst, eFrz, frzK, oI, oIC, oSub, oMod, oDiv, oPow, oLt, oLe, oGt, oGe, oAddI', oAddL, oMulI', oAdd, oMul, eNeg, oIsN, oNotN, oIx, atK, mNo, mPart, eSl, eCB, oLen, oInt, oSumL, oMax2, oMin2, oMax1, oMin1, oList, oBls, eCall, eBM, eBM0, isLs, oApp, oPop, oExt, lsOf, tTru, sNext, sSeq, sDrop, sRet, sRetN, sIf, sBreak, sCont, sNever, gN, gNil, gCons, gTup, setT, gSub, sAsg, sPar, sAug, oIxL, sAugS, oAddI, sFor, eLc, iSeq, iRange1, iRange2, iEnum, tYes, oIsi, kdOf, oEq, oNe, eqT_int, eqT_nn, eqT_in, eqT_ni,   atI_0, atI_1, atI_2, atI_3, atI_4, atI_5, atI_6, atI_7, atI_8, atI_m1, ixN_0, ixN_1,   kdN_int, kdN_bool, kdN_str, kdN_list, kdN_tuple, isK, view_int, view_non, dep_int, dep_non, cN, cN2, wipeT,   mk_true, mk_false, put_same, put_put,   List.map_cons, List.map_nil, List.length_cons, List.length_nil, List.replicate, List.cons_append, List.nil_append, List.append_nil, List.set_cons_zero, List.set_cons_succ, List.getElem?_cons_zero, List.getElem?_cons_succ, List.getElem?_nil, Nat.reduceAdd, Nat.reduceSub, Nat.reduceLeDiff, Nat.reduceLT, Nat.reduceEqDiff, Option.isSome_some, Option.isSome_none, true_and, and_true, if_true, if_false, Bool.false_eq_true, Bool.not_true, Bool.not_false, reduceCtorEq, Nat.zero_add, Nat.zero_le, decide_eq_true_eq, Bool.not_eq_true', decide_eq_false_iff_not, ite_true, ite_false, Bool.if_false_right, Bool.if_true_left, decide_true, decide_false, Bool.true_or, Bool.or_true, Bool.false_or, Bool.or_false, Bool.true_and, Bool.and_true, Bool.false_and, Bool.and_false, List.length_map, not_true_eq_false, not_false_eq_true, false_and, and_false, bne_self_eq_false, Bool.not_eq_false])
  have e := GB.ceil_law k t b (by omega)
  have m1 : (k * t).natAbs < 2 ^ 64 ∨ t.natAbs < 2 ^ 64 ∨ True := .inr (.inr trivial)
  unfold GB.step at q
  rw [← e] at q
  refine ⟨.inr (.inl (by omega)), ⟨by omega, by omega⟩, .inr (.inl (by omega)), .inr (.inl (by omega)), ?_⟩
  by_cases c0 : k * t / b * b < k * t
  · rw [if_pos c0] at q
    (try simp only [c0, lim, oOwn, oIsiC, view_bl, dep_bl, eqT_tt, eqT_ff, eqT_tf, eqT_ft, eDIn, eDGet, eDNew, eDc, keyT, eMakeX, eCallK, eRev, oRepr, eMeth, eProp, eFld, eMake, sRaise, sPar3, ends, startT, eVar, eC, eOp, tOf, eChain, tAndM, tOrM, tNotM, eAndV, eOrV, eNotV, eIf, aNil, aCons, eTup, eLst, eFrz, frzK, oI, oIC, oSub, oMod, oDiv, oPow, oLt, oLe, oGt, oGe, oAddI', oAddL, oMulI', oAdd, oMul, eNeg, oIsN, oNotN, oIx, atK, mNo, mPart, eSl, eCB, oLen, oInt, oSumL, oMax2, oMin2, oMax1, oMin1, oList, oBls, eCall, eBM, eBM0, isLs, oApp, oPop, oExt, lsOf, tTru, sNext, sSeq, sDrop, sRet, sRetN, sIf, sBreak, sCont, sNever, gN, gNil, gCons, gTup, setT, gSub, sAsg, sPar, sAug, oIxL, sAugS, oAddI, sFor, eLc, iSeq, iRange1, iRange2, iEnum, tYes, oIsi, kdOf, oEq, oNe, eqT_int, eqT_nn, eqT_in, eqT_ni,   atI_0, atI_1, atI_2, atI_3, atI_4, atI_5, atI_6, atI_7, atI_8, atI_m1, ixN_0, ixN_1,   kdN_int, kdN_bool, kdN_str, kdN_list, kdN_tuple, isK, view_int, view_non, dep_int, dep_non, cN, cN2, wipeT,   mk_true, mk_false, put_same, put_put,   List.map_cons, List.map_nil, List.length_cons, List.length_nil, List.replicate, List.cons_append, List.nil_append, List.append_nil, List.set_cons_zero, List.set_cons_succ, List.getElem?_cons_zero, List.getElem?_cons_succ, List.getElem?_nil, Nat.reduceAdd, Nat.reduceSub, Nat.reduceLeDiff, Nat.reduceLT, Nat.reduceEqDiff, Option.isSome_some, Option.isSome_none, true_and, and_true, if_true, if_false, Bool.false_eq_true, Bool.not_true, Bool.not_false, reduceCtorEq, Nat.zero_add, Nat.zero_le, decide_eq_true_eq, Bool.not_eq_true', decide_eq_false_iff_not, ite_true, ite_false, Bool.if_false_right, Bool.if_true_left, decide_true, decide_false, Bool.true_or, Bool.or_true, Bool.false_or, Bool.or_false, Bool.true_and, Bool.and_true, Bool.false_and, Bool.and_false, List.length_map, not_true_eq_false, not_false_eq_true, false_and, and_false, bne_self_eq_false, Bool.not_eq_false])
    by_cases c1 : k * t / b + 1 < f
    · rw [if_pos c1] at q; (try simp only [c1, lim, oOwn, oIsiC, view_bl, dep_bl, eqT_tt, eqT_ff, eqT_tf, eqT_ft, eDIn, eDGet, eDNew, eDc, keyT, eMakeX, eCallK, eRev, oRepr, eMeth, eProp, eFld, eMake, sRaise, sPar3, ends, startT, eVar, eC, eOp, tOf, eChain, tAndM, tOrM, tNotM, eAndV, eOrV, eNotV, eIf, aNil, aCons, eTup, eLst, eFrz, frzK, oI, oIC, oSub, oMod, oDiv, oPow, oLt, oLe, oGt, oGe, oAddI', oAddL, oMulI', oAdd, oMul, eNeg, oIsN, oNotN, oIx, atK, mNo, mPart, eSl, eCB, oLen, oInt, oSumL, oMax2, oMin2, oMax1, oMin1, oList, oBls, eCall, eBM, eBM0, isLs, oApp, oPop, oExt, lsOf, tTru, sNext, sSeq, sDrop, sRet, sRetN, sIf, sBreak, sCont, sNever, gN, gNil, gCons, gTup, setT, gSub, sAsg, sPar, sAug, oIxL, sAugS, oAddI, sFor, eLc, iSeq, iRange1, iRange2, iEnum, tYes, oIsi, kdOf, oEq, oNe, eqT_int, eqT_nn, eqT_in, eqT_ni,   atI_0, atI_1, atI_2, atI_3, atI_4, atI_5, atI_6, atI_7, atI_8, atI_m1, ixN_0, ixN_1,   kdN_int, kdN_bool, kdN_str, kdN_list, kdN_tuple, isK, view_int, view_non, dep_int, dep_non, cN, cN2, wipeT,   mk_true, mk_false, put_same, put_put,   List.map_cons, List.map_nil, List.length_cons, List.length_nil, List.replicate, List.cons_append, List.nil_append, List.append_nil, List.set_cons_zero, List.set_cons_succ, List.getElem?_cons_zero, List.getElem?_cons_succ, List.getElem?_nil, Nat.reduceAdd, Nat.reduceSub, Nat.reduceLeDiff, Nat.reduceLT, Nat.reduceEqDiff, Option.isSome_some, Option.isSome_none, true_and, and_true, if_true, if_false, Bool.false_eq_true, Bool.not_true, Bool.not_false, reduceCtorEq, Nat.zero_add, Nat.zero_le, decide_eq_true_eq, Bool.not_eq_true', decide_eq_false_iff_not, ite_true, ite_false, Bool.if_false_right, Bool.if_true_left, decide_true, decide_false, Bool.true_or, Bool.or_true, Bool.false_or, Bool.or_false, Bool.true_and, Bool.and_true, Bool.false_and, Bool.and_false, List.length_map, not_true_eq_false, not_false_eq_true, false_and, and_false, bne_self_eq_false, Bool.not_eq_false]); exact dn_self q
    · rw [if_neg c1] at q
      by_cases c2 : k * t / b + 1 < r
      · rw [if_pos c2] at q; (try simp only [c1, c2, lim, oOwn, oIsiC, view_bl, dep_bl, eqT_tt, eqT_ff, eqT_tf, eqT_ft, eDIn, eDGet, eDNew, eDc, keyT, eMakeX, eCallK, eRev, oRepr, eMeth, eProp, eFld, eMake, sRaise, sPar3, ends, startT, eVar, eC, eOp, tOf, eChain, tAndM, tOrM, tNotM, eAndV, eOrV, eNotV, eIf, aNil, aCons, eTup, eLst, eFrz, frzK, oI, oIC, oSub, oMod, oDiv, oPow, oLt, oLe, oGt, oGe, oAddI', oAddL, oMulI', oAdd, oMul, eNeg, oIsN, oNotN, oIx, atK, mNo, mPart, eSl, eCB, oLen, oInt, oSumL, oMax2, oMin2, oMax1, oMin1, oList, oBls, eCall, eBM, eBM0, isLs, oApp, oPop, oExt, lsOf, tTru, sNext, sSeq, sDrop, sRet, sRetN, sIf, sBreak, sCont, sNever, gN, gNil, gCons, gTup, setT, gSub, sAsg, sPar, sAug, oIxL, sAugS, oAddI, sFor, eLc, iSeq, iRange1, iRange2, iEnum, tYes, oIsi, kdOf, oEq, oNe, eqT_int, eqT_nn, eqT_in, eqT_ni,   atI_0, atI_1, atI_2, atI_3, atI_4, atI_5, atI_6, atI_7, atI_8, atI_m1, ixN_0, ixN_1,   kdN_int, kdN_bool, kdN_str, kdN_list, kdN_tuple, isK, view_int, view_non, dep_int, dep_non, cN, cN2, wipeT,   mk_true, mk_false, put_same, put_put,   List.map_cons, List.map_nil, List.length_cons, List.length_nil, List.replicate, List.cons_append, List.nil_append, List.append_nil, List.set_cons_zero, List.set_cons_succ, List.getElem?_cons_zero, List.getElem?_cons_succ, List.getElem?_nil, Nat.reduceAdd, Nat.reduceSub, Nat.reduceLeDiff, Nat.reduceLT, Nat.reduceEqDiff, Option.isSome_some, Option.isSome_none, true_and, and_true, if_true, if_false, Bool.false_eq_true, Bool.not_true, Bool.not_false, reduceCtorEq, Nat.zero_add, Nat.zero_le, decide_eq_true_eq, Bool.not_eq_true', decide_eq_false_iff_not, ite_true, ite_false, Bool.if_false_right, Bool.if_true_left, decide_true, decide_false, Bool.true_or, Bool.or_true, Bool.false_or, Bool.or_false, Bool.true_and, Bool.and_true, Bool.false_and, Bool.and_false, List.length_map, not_true_eq_false, not_false_eq_true, false_and, and_false, bne_self_eq_false, Bool.not_eq_false]); exact dn_self q
      · rw [if_neg c2] at q; (try simp only [c1, c2, lim, oOwn, oIsiC, view_bl, dep_bl, eqT_tt, eqT_ff, eqT_tf, eqT_ft, eDIn, eDGet, eDNew, eDc, keyT, eMakeX, eCallK, eRev, oRepr, eMeth, eProp, eFld, eMake, sRaise, sPar3, ends, startT, eVar, eC, eOp, tOf, eChain, tAndM, tOrM, tNotM, eAndV, eOrV, eNotV, eIf, aNil, aCons, eTup, eLst, eFrz, frzK, oI, oIC, oSub, oMod, oDiv, oPow, oLt, oLe, oGt, oGe, oAddI', oAddL, oMulI', oAdd, oMul, eNeg, oIsN, oNotN, oIx, atK, mNo, mPart, eSl, eCB, oLen, oInt, oSumL, oMax2, oMin2, oMax1, oMin1, oList, oBls, eCall, eBM, eBM0, isLs, oApp, oPop, oExt, lsOf, tTru, sNext, sSeq, sDrop, sRet, sRetN, sIf, sBreak, sCont, sNever, gN, gNil, gCons, gTup, setT, gSub, sAsg, sPar, sAug, oIxL, sAugS, oAddI, sFor, eLc, iSeq, iRange1, iRange2, iEnum, tYes, oIsi, kdOf, oEq, oNe, eqT_int, eqT_nn, eqT_in, eqT_ni,   atI_0, atI_1, atI_2, atI_3, atI_4, atI_5, atI_6, atI_7, atI_8, atI_m1, ixN_0, ixN_1,   kdN_int, kdN_bool, kdN_str, kdN_list, kdN_tuple, isK, view_int, view_non, dep_int, dep_non, cN, cN2, wipeT,   mk_true, mk_false, put_same, put_put,   List.map_cons, List.map_nil, List.length_cons, List.length_nil, List.replicate, List.cons_append, List.nil_append, List.append_nil, List.set_cons_zero, List.set_cons_succ, List.getElem?_cons_zero, List.getElem?_cons_succ, List.getElem?_nil, Nat.reduceAdd, Nat.reduceSub, Nat.reduceLeDiff, Nat.reduceLT, Nat.reduceEqDiff, Option.isSome_some, Option.isSome_none, true_and, and_true, if_true, if_false, Bool.false_eq_true, Bool.not_true, Bool.not_false, reduceCtorEq, Nat.zero_add, Nat.zero_le, decide_eq_true_eq, Bool.not_eq_true', decide_eq_false_iff_not, ite_true, ite_false, Bool.if_false_right, Bool.if_true_left, decide_true, decide_false, Bool.true_or, Bool.or_true, Bool.false_or, Bool.or_false, Bool.true_and, Bool.and_true, Bool.false_and, Bool.and_false, List.length_map, not_true_eq_false, not_false_eq_true, false_and, and_false, bne_self_eq_false, Bool.not_eq_false]); exact dn_self q
  · rw [if_neg c0] at q
    (try simp only [c0, lim, oOwn, oIsiC, view_bl, dep_bl, eqT_tt, eqT_ff, eqT_tf, eqT_ft, eDIn, eDGet, eDNew, eDc, keyT, eMakeX, eCallK, eRev, oRepr, eMeth, eProp, eFld, eMake, sRaise, sPar3, ends, startT, eVar, eC, eOp, tOf, eChain, tAndM, tOrM, tNotM, eAndV, eOrV, eNotV, eIf, aNil, aCons, eTup, eLst, eFrz, frzK, oI, oIC, oSub, oMod, oDiv, oPow, oLt, oLe, oGt, oGe, oAddI', oAddL, oMulI', oAdd, oMul, eNeg, oIsN, oNotN, oIx, atK, mNo, mPart, eSl, eCB, oLen, oInt, oSumL, oMax2, oMin2, oMax1, oMin1, oList, oBls, eCall, eBM, eBM0, isLs, oApp, oPop, oExt, lsOf, tTru, sNext, sSeq, sDrop, sRet, sRetN, sIf, sBreak, sCont, sNever, gN, gNil, gCons, gTup, setT, gSub, sAsg, sPar, sAug, oIxL, sAugS, oAddI, sFor, eLc, iSeq, iRange1, iRange2, iEnum, tYes, oIsi, kdOf, oEq, oNe, eqT_int, eqT_nn, eqT_in, eqT_ni,   atI_0, atI_1, atI_2, atI_3, atI_4, atI_5, atI_6, atI_7, atI_8, atI_m1, ixN_0, ixN_1,   kdN_int, kdN_bool, kdN_str, kdN_list, kdN_tuple, isK, view_int, view_non, dep_int, dep_non, cN, cN2, wipeT,   mk_true, mk_false, put_same, put_put,   List.map_cons, List.map_nil, List.length_cons, List.length_nil, List.replicate, List.cons_append, List.nil_append, List.append_nil, List.set_cons_zero, List.set_cons_succ, List.getElem?_cons_zero, List.getElem?_cons_succ, List.getElem?_nil, Nat.reduceAdd, Nat.reduceSub, Nat.reduceLeDiff, Nat.reduceLT, Nat.reduceEqDiff, Option.isSome_some, Option.isSome_none, true_and, and_true, if_true, if_false, Bool.false_eq_true, Bool.not_true, Bool.not_false, reduceCtorEq, Nat.zero_add, Nat.zero_le, decide_eq_true_eq, Bool.not_eq_true', decide_eq_false_iff_not, ite_true, ite_false, Bool.if_false_right, Bool.if_true_left, decide_true, decide_false, Bool.true_or, Bool.or_true, Bool.false_or, Bool.or_false, Bool.true_and, Bool.and_true, Bool.false_and, Bool.and_false, List.length_map, not_true_eq_false, not_false_eq_true, false_and, and_false, bne_self_eq_false, Bool.not_eq_false])
    by_cases c1 : k * t / b < f
    · rw [if_pos c1] at q; (try simp only [c1, lim, oOwn, oIsiC, view_bl, dep_bl, eqT_tt, eqT_ff, eqT_tf, eqT_ft, eDIn, eDGet, eDNew, eDc, keyT, eMakeX, eCallK, eRev, oRepr, eMeth, eProp, eFld, eMake, sRaise, sPar3, ends, startT, eVar, eC, eOp, tOf, eChain, tAndM, tOrM, tNotM, eAndV, eOrV, eNotV, eIf, aNil, aCons, eTup, eLst, eFrz, frzK, oI, oIC, oSub, oMod, oDiv, oPow, oLt, oLe, oGt, oGe, oAddI', oAddL, oMulI', oAdd, oMul, eNeg, oIsN, oNotN, oIx, atK, mNo, mPart, eSl, eCB, oLen, oInt, oSumL, oMax2, oMin2, oMax1, oMin1, oList, oBls, eCall, eBM, eBM0, isLs, oApp, oPop, oExt, lsOf, tTru, sNext, sSeq, sDrop, sRet, sRetN, sIf, sBreak, sCont, sNever, gN, gNil, gCons, gTup, setT, gSub, sAsg, sPar, sAug, oIxL, sAugS, oAddI, sFor, eLc, iSeq, iRange1, iRange2, iEnum, tYes, oIsi, kdOf, oEq, oNe, eqT_int, eqT_nn, eqT_in, eqT_ni,   atI_0, atI_1, atI_2, atI_3, atI_4, atI_5, atI_6, atI_7, atI_8, atI_m1, ixN_0, ixN_1,   kdN_int, kdN_bool, kdN_str, kdN_list, kdN_tuple, isK, view_int, view_non, dep_int, dep_non, cN, cN2, wipeT,   mk_true, mk_false, put_same, put_put,   List.map_cons, List.map_nil, List.length_cons, List.length_nil, List.replicate, List.cons_append, List.nil_append, List.append_nil, List.set_cons_zero, List.set_cons_succ, List.getElem?_cons_zero, List.getElem?_cons_succ, List.getElem?_nil, Nat.reduceAdd, Nat.reduceSub, Nat.reduceLeDiff, Nat.reduceLT, Nat.reduceEqDiff, Option.isSome_some, Option.isSome_none, true_and, and_true, if_true, if_false, Bool.false_eq_true, Bool.not_true, Bool.not_false, reduceCtorEq, Nat.zero_add, Nat.zero_le, decide_eq_true_eq, Bool.not_eq_true', decide_eq_false_iff_not, ite_true, ite_false, Bool.if_false_right, Bool.if_true_left, decide_true, decide_false, Bool.true_or, Bool.or_true, Bool.false_or, Bool.or_false, Bool.true_and, Bool.and_true, Bool.false_and, Bool.and_false, List.length_map, not_true_eq_false, not_false_eq_true, false_and, and_false, bne_self_eq_false, Bool.not_eq_false]); exact dn_self q
    · rw [if_neg c1] at q
      by_cases c2 : k * t / b < r
      · rw [if_pos c2] at q; (try simp only [c1, c2, lim, oOwn, oIsiC, view_bl, dep_bl, eqT_tt, eqT_ff, eqT_tf, eqT_ft, eDIn, eDGet, eDNew, eDc, keyT, eMakeX, eCallK, eRev, oRepr, eMeth, eProp, eFld, eMake, sRaise, sPar3, ends, startT, eVar, eC, eOp, tOf, eChain, tAndM, tOrM, tNotM, eAndV, eOrV, eNotV, eIf, aNil, aCons, eTup, eLst, eFrz, frzK, oI, oIC, oSub, oMod, oDiv, oPow, oLt, oLe, oGt, oGe, oAddI', oAddL, oMulI', oAdd, oMul, eNeg, oIsN, oNotN, oIx, atK, mNo, mPart, eSl, eCB, oLen, oInt, oSumL, oMax2, oMin2, oMax1, oMin1, oList, oBls, eCall, eBM, eBM0, isLs, oApp, oPop, oExt, lsOf, tTru, sNext, sSeq, sDrop, sRet, sRetN, sIf, sBreak, sCont, sNever, gN, gNil, gCons, gTup, setT, gSub, sAsg, sPar, sAug, oIxL, sAugS, oAddI, sFor, eLc, iSeq, iRange1, iRange2, iEnum, tYes, oIsi, kdOf, oEq, oNe, eqT_int, eqT_nn, eqT_in, eqT_ni,   atI_0, atI_1, atI_2, atI_3, atI_4, atI_5, atI_6, atI_7, atI_8, atI_m1, ixN_0, ixN_1,   kdN_int, kdN_bool, kdN_str, kdN_list, kdN_tuple, isK, view_int, view_non, dep_int, dep_non, cN, cN2, wipeT,   mk_true, mk_false, put_same, put_put,   List.map_cons, List.map_nil, List.length_cons, List.length_nil, List.replicate, List.cons_append, List.nil_append, List.append_nil, List.set_cons_zero, List.set_cons_succ, List.getElem?_cons_zero, List.getElem?_cons_succ, List.getElem?_nil, Nat.reduceAdd, Nat.reduceSub, Nat.reduceLeDiff, Nat.reduceLT, Nat.reduceEqDiff, Option.isSome_some, Option.isSome_none, true_and, and_true, if_true, if_false, Bool.false_eq_true, Bool.not_true, Bool.not_false, reduceCtorEq, Nat.zero_add, Nat.zero_le, decide_eq_true_eq, Bool.not_eq_true', decide_eq_false_iff_not, ite_true, ite_false, Bool.if_false_right, Bool.if_true_left, decide_true, decide_false, Bool.true_or, Bool.or_true, Bool.false_or, Bool.or_false, Bool.true_and, Bool.and_true, Bool.false_and, Bool.and_false, List.length_map, not_true_eq_false, not_false_eq_true, false_and, and_false, bne_self_eq_false, Bool.not_eq_false]); exact dn_self q
      · rw [if_neg c2] at q; (try simp only [c1, c2, lim, oOwn, oIsiC, view_bl, dep_bl, eqT_tt, eqT_ff, eqT_tf, eqT_ft, eDIn, eDGet, eDNew, eDc, keyT, eMakeX, eCallK, eRev, oRepr, eMeth, eProp, eFld, eMake, sRaise, sPar3, ends, startT, eVar, eC, eOp, tOf, eChain, tAndM, tOrM, tNotM, eAndV, eOrV, eNotV, eIf, aNil, aCons, eTup, eLst, eFrz, frzK, oI, oIC, oSub, oMod, oDiv, oPow, oLt, oLe, oGt, oGe, oAddI', oAddL, oMulI', oAdd, oMul, eNeg, oIsN, oNotN, oIx, atK, mNo, mPart, eSl, eCB, oLen, oInt, oSumL, oMax2, oMin2, oMax1, oMin1, oList, oBls, eCall, eBM, eBM0, isLs, oApp, oPop, oExt, lsOf, tTru, sNext, sSeq, sDrop, sRet, sRetN, sIf, sBreak, sCont, sNever, gN, gNil, gCons, gTup, setT, gSub, sAsg, sPar, sAug, oIxL, sAugS, oAddI, sFor, eLc, iSeq, iRange1, iRange2, iEnum, tYes, oIsi, kdOf, oEq, oNe, eqT_int, eqT_nn, eqT_in, eqT_ni,   atI_0, atI_1, atI_2, atI_3, atI_4, atI_5, atI_6, atI_7, atI_8, atI_m1, ixN_0, ixN_1,   kdN_int, kdN_bool, kdN_str, kdN_list, kdN_tuple, isK, view_int, view_non, dep_int, dep_non, cN, cN2, wipeT,   mk_true, mk_false, put_same, put_put,   List.map_cons, List.map_nil, List.length_cons, List.length_nil, List.replicate, List.cons_append, List.nil_append, List.append_nil, List.set_cons_zero, List.set_cons_succ, List.getElem?_cons_zero, List.getElem?_cons_succ, List.getElem?_nil, Nat.reduceAdd, Nat.reduceSub, Nat.reduceLeDiff, Nat.reduceLT, Nat.reduceEqDiff, Option.isSome_some, Option.isSome_none, true_and, and_true, if_true, if_false, Bool.false_eq_true, Bool.not_true, Bool.not_false, reduceCtorEq, Nat.zero_add, Nat.zero_le, decide_eq_true_eq, Bool.not_eq_true', decide_eq_false_iff_not, ite_true, ite_false, Bool.if_false_right, Bool.if_true_left, decide_true, decide_false, Bool.true_or, Bool.or_true, Bool.false_or, Bool.or_false, Bool.true_and, Bool.and_true, Bool.false_and, Bool.and_false, List.length_map, not_true_eq_false, not_false_eq_true, false_and, and_false, bne_self_eq_false, Bool.not_eq_false]); exact dn_self q
theorem pl_step_of : ∀ ts h Q E, ts.length = 2 → C_step_of ts h Q E → B_step_of (ends Q E) (startT N_step_of.length ts) h := by
  rintro ts h Q E - ⟨f, r, t, b, k, rfl, o, q⟩
  unfold B_step_of
  obtain ⟨f1, fr, r1, t1, t2, b1, b2⟩ := o
  unfold GB.step at q
  (try simp only [ptT, C_part_of, lim, oOwn, oIsiC, view_bl, dep_bl, eqT_tt, eqT_ff, eqT_tf, eqT_ft, eDIn, eDGet, eDNew, eDc, keyT, eMakeX, eCallK, eRev, oRepr, eMeth, eProp, eFld, eMake, sRaise, sPar3, ends, startT, eVar, eC, eOp, tOf, eChain, tAndM, tOrM, tNotM, eAndV, eOrV, eNotV, eIf, aNil, aCons, eTup, eLst, eFrz, frzK, oI, oIC, oSub, oMod, oDiv, oPow, oLt, oLe, oGt, oGe, oAddI', oAddL, oMulI', oAdd, oMul, eNeg, oIsN, oNotN, oIx, atK, mNo, mPart, eSl, eCB, oLen, oInt, oSumL, oMax2, oMin2, oMax1, oMin1, oList, oBls, eCall, eBM, eBM0, isLs, oApp, oPop, oExt, lsOf, tTru, sNext, sSeq, sDrop, sRet, sRetN, sIf, sBreak, sCont, sNever, gN, gNil, gCons, gTup, setT, gSub, sAsg, sPar, sAug, oIxL, sAugS, oAddI, sFor, eLc, iSeq, iRange1, iRange2, iEnum, tYes, oIsi, kdOf, oEq, oNe, eqT_int, eqT_nn, eqT_in, eqT_ni,   atI_0, atI_1, atI_2, atI_3, atI_4, atI_5, atI_6, atI_7, atI_8, atI_m1, ixN_0, ixN_1,   kdN_int, kdN_bool, kdN_str, kdN_list, kdN_tuple, isK, view_int, view_non, dep_int, dep_non, cN, cN2, wipeT,   mk_true, mk_false, put_same, put_put,   List.map_cons, List.map_nil, List.length_cons, List.length_nil, List.replicate, List.cons_append, List.nil_append, List.append_nil, List.set_cons_zero, List.set_cons_succ, List.getElem?_cons_zero, List.getElem?_cons_succ, List.getElem?_nil, Nat.reduceAdd, Nat.reduceSub, Nat.reduceLeDiff, Nat.reduceLT, Nat.reduceEqDiff, Option.isSome_some, Option.isSome_none, true_and, and_true, if_true, if_false, Bool.false_eq_true, Bool.not_true, Bool.not_false, reduceCtorEq, Nat.zero_add, Nat.zero_le, decide_eq_true_eq, Bool.not_eq_true', decide_eq_false_iff_not, ite_true, ite_false, Bool.if_false_right, Bool.if_true_left, decide_true, decide_false, Bool.true_or, Bool.or_true, Bool.false_or, Bool.or_false, Bool.true_and, Bool.and_true, Bool.false_and, Bool.and_false, List.length_map, not_true_eq_false, not_false_eq_true, false_and, and_false, bne_self_eq_false, Bool.not_eq_false])
  refine ⟨t, b, k, rfl, t1, t2, b1, b2, ?_⟩
  by_cases c1 : GB.part t b k < f
  · rw [if_pos c1] at q; (try simp only [c1, lim, oOwn, oIsiC, view_bl, dep_bl, eqT_tt, eqT_ff, eqT_tf, eqT_ft, eDIn, eDGet, eDNew, eDc, keyT, eMakeX, eCallK, eRev, oRepr, eMeth, eProp, eFld, eMake, sRaise, sPar3, ends, startT, eVar, eC, eOp, tOf, eChain, tAndM, tOrM, tNotM, eAndV, eOrV, eNotV, eIf, aNil, aCons, eTup, eLst, eFrz, frzK, oI, oIC, oSub, oMod, oDiv, oPow, oLt, oLe, oGt, oGe, oAddI', oAddL, oMulI', oAdd, oMul, eNeg, oIsN, oNotN, oIx, atK, mNo, mPart, eSl, eCB, oLen, oInt, oSumL, oMax2, oMin2, oMax1, oMin1, oList, oBls, eCall, eBM, eBM0, isLs, oApp, oPop, oExt, lsOf, tTru, sNext, sSeq, sDrop, sRet, sRetN, sIf, sBreak, sCont, sNever, gN, gNil, gCons, gTup, setT, gSub, sAsg, sPar, sAug, oIxL, sAugS, oAddI, sFor, eLc, iSeq, iRange1, iRange2, iEnum, tYes, oIsi, kdOf, oEq, oNe, eqT_int, eqT_nn, eqT_in, eqT_ni,   atI_0, atI_1, atI_2, atI_3, atI_4, atI_5, atI_6, atI_7, atI_8, atI_m1, ixN_0, ixN_1,   kdN_int, kdN_bool, kdN_str, kdN_list, kdN_tuple, isK, view_int, view_non, dep_int, dep_non, cN, cN2, wipeT,   mk_true, mk_false, put_same, put_put,   List.map_cons, List.map_nil, List.length_cons, List.length_nil, List.replicate, List.cons_append, List.nil_append, List.append_nil, List.set_cons_zero, List.set_cons_succ, List.getElem?_cons_zero, List.getElem?_cons_succ, List.getElem?_nil, Nat.reduceAdd, Nat.reduceSub, Nat.reduceLeDiff, Nat.reduceLT, Nat.reduceEqDiff, Option.isSome_some, Option.isSome_none, true_and, and_true, if_true, if_false, Bool.false_eq_true, Bool.not_true, Bool.not_false, reduceCtorEq, Nat.zero_add, Nat.zero_le, decide_eq_true_eq, Bool.not_eq_true', decide_eq_false_iff_not, ite_true, ite_false, Bool.if_false_right, Bool.if_true_left, decide_true, decide_false, Bool.true_or, Bool.or_true, Bool.false_or, Bool.or_false, Bool.true_and, Bool.and_true, Bool.false_and, Bool.and_false, List.length_map, not_true_eq_false, not_false_eq_true, false_and, and_false, bne_self_eq_false, Bool.not_eq_false]); exact dn_self q
  · rw [if_neg c1] at q
    by_cases c2 : GB.part t b k < r
    · rw [if_pos c2] at q; (try simp only [c1, c2, lim, oOwn, oIsiC, view_bl, dep_bl, eqT_tt, eqT_ff, eqT_tf, eqT_ft, eDIn, eDGet, eDNew, eDc, keyT, eMakeX, eCallK, eRev, oRepr, eMeth, eProp, eFld, eMake, sRaise, sPar3, ends, startT, eVar, eC, eOp, tOf, eChain, tAndM, tOrM, tNotM, eAndV, eOrV, eNotV, eIf, aNil, aCons, eTup, eLst, eFrz, frzK, oI, oIC, oSub, oMod, oDiv, oPow, oLt, oLe, oGt, oGe, oAddI', oAddL, oMulI', oAdd, oMul, eNeg, oIsN, oNotN, oIx, atK, mNo, mPart, eSl, eCB, oLen, oInt, oSumL, oMax2, oMin2, oMax1, oMin1, oList, oBls, eCall, eBM, eBM0, isLs, oApp, oPop, oExt, lsOf, tTru, sNext, sSeq, sDrop, sRet, sRetN, sIf, sBreak, sCont, sNever, gN, gNil, gCons, gTup, setT, gSub, sAsg, sPar, sAug, oIxL, sAugS, oAddI, sFor, eLc, iSeq, iRange1, iRange2, iEnum, tYes, oIsi, kdOf, oEq, oNe, eqT_int, eqT_nn, eqT_in, eqT_ni,   atI_0, atI_1, atI_2, atI_3, atI_4, atI_5, atI_6, atI_7, atI_8, atI_m1, ixN_0, ixN_1,   kdN_int, kdN_bool, kdN_str, kdN_list, kdN_tuple, isK, view_int, view_non, dep_int, dep_non, cN, cN2, wipeT,   mk_true, mk_false, put_same, put_put,   List.map_cons, List.map_nil, List.length_cons, List.length_nil, List.replicate, List.cons_append, List.nil_append, List.append_nil, List.set_cons_zero, List.set_cons_succ, List.getElem?_cons_zero, List.getElem?_cons_succ, List.getElem?_nil, Nat.reduceAdd, Nat.reduceSub, Nat.reduceLeDiff, Nat.reduceLT, Nat.reduceEqDiff, Option.isSome_some, Option.isSome_none, true_and, and_true, if_true, if_false, Bool.false_eq_true, Bool.not_true, Bool.not_false, reduceCtorEq, Nat.zero_add, Nat.zero_le, decide_eq_true_eq, Bool.not_eq_true', decide_eq_false_iff_not, ite_true, ite_false, Bool.if_false_right, Bool.if_true_left, decide_true, decide_false, Bool.true_or, Bool.or_true, Bool.false_or, Bool.or_false, Bool.true_and, Bool.and_true, Bool.false_and, Bool.and_false, List.length_map, not_true_eq_false, not_false_eq_true, false_and, and_false, bne_self_eq_false, Bool.not_eq_false]); exact dn_self q
    · rw [if_neg c2] at q; (try simp only [c1, c2, lim, oOwn, oIsiC, view_bl, dep_bl, eqT_tt, eqT_ff, eqT_tf, eqT_ft, eDIn, eDGet, eDNew, eDc, keyT, eMakeX, eCallK, eRev, oRepr, eMeth, eProp, eFld, eMake, sRaise, sPar3, ends, startT, eVar, eC, eOp, tOf, eChain, tAndM, tOrM, tNotM, eAndV, eOrV, eNotV, eIf, aNil, aCons, eTup, eLst, eFrz, frzK, oI, oIC, oSub, oMod, oDiv, oPow, oLt, oLe, oGt, oGe, oAddI', oAddL, oMulI', oAdd, oMul, eNeg, oIsN, oNotN, oIx, atK, mNo, mPart, eSl, eCB, oLen, oInt, oSumL, oMax2, oMin2, oMax1, oMin1, oList, oBls, eCall, eBM, eBM0, isLs, oApp, oPop, oExt, lsOf, tTru, sNext, sSeq, sDrop, sRet, sRetN, sIf, sBreak, sCont, sNever, gN, gNil, gCons, gTup, setT, gSub, sAsg, sPar, sAug, oIxL, sAugS, oAddI, sFor, eLc, iSeq, iRange1, iRange2, iEnum, tYes, oIsi, kdOf, oEq, oNe, eqT_int, eqT_nn, eqT_in, eqT_ni,   atI_0, atI_1, atI_2, atI_3, atI_4, atI_5, atI_6, atI_7, atI_8, atI_m1, ixN_0, ixN_1,   kdN_int, kdN_bool, kdN_str, kdN_list, kdN_tuple, isK, view_int, view_non, dep_int, dep_non, cN, cN2, wipeT,   mk_true, mk_false, put_same, put_put,   List.map_cons, List.map_nil, List.length_cons, List.length_nil, List.replicate, List.cons_append, List.nil_append, List.append_nil, List.set_cons_zero, List.set_cons_succ, List.getElem?_cons_zero, List.getElem?_cons_succ, List.getElem?_nil, Nat.reduceAdd, Nat.reduceSub, Nat.reduceLeDiff, Nat.reduceLT, Nat.reduceEqDiff, Option.isSome_some, Option.isSome_none, true_and, and_true, if_true, if_false, Bool.false_eq_true, Bool.not_true, Bool.not_false, reduceCtorEq, Nat.zero_add, Nat.zero_le, decide_eq_true_eq, Bool.not_eq_true', decide_eq_false_iff_not, ite_true, ite_false, Bool.if_false_right, Bool.if_true_left, decide_true, decide_false, Bool.true_or, Bool.or_true, Bool.false_or, Bool.or_false, Bool.true_and, Bool.and_true, Bool.false_and, Bool.and_false, List.length_map, not_true_eq_false, not_false_eq_true, false_and, and_false, bne_self_eq_false, Bool.not_eq_false]); exact dn_self q
theorem pl_Book___eq__ (Z : Tx K mg a) : ∀ ts h Q E, ts.length = 2 → C_Book___eq__ a ts h Q E → B_Book___eq__ K a (ends Q E) (startT N_Book___eq__.length ts) h := by
  rintro ts h Q E - ⟨x, y, f, r, t, b, f', r', t', b', rfl, hx, hy, q⟩
  unfold B_Book___eq__
  have hx' := hx; have hy' := hy
  unfold Bk at hx hy
  (try simp only [oIsiC, lim, oOwn, oIsiC, view_bl, dep_bl, eqT_tt, eqT_ff, eqT_tf, eqT_ft, eDIn, eDGet, eDNew, eDc, keyT, eMakeX, eCallK, eRev, oRepr, eMeth, eProp, eFld, eMake, sRaise, sPar3, ends, startT, eVar, eC, eOp, tOf, eChain, tAndM, tOrM, tNotM, eAndV, eOrV, eNotV, eIf, aNil, aCons, eTup, eLst, eFrz, frzK, oI, oIC, oSub, oMod, oDiv, oPow, oLt, oLe, oGt, oGe, oAddI', oAddL, oMulI', oAdd, oMul, eNeg, oIsN, oNotN, oIx, atK, mNo, mPart, eSl, eCB, oLen, oInt, oSumL, oMax2, oMin2, oMax1, oMin1, oList, oBls, eCall, eBM, eBM0, isLs, oApp, oPop, oExt, lsOf, tTru, sNext, sSeq, sDrop, sRet, sRetN, sIf, sBreak, sCont, sNever, gN, gNil, gCons, gTup, setT, gSub, sAsg, sPar, sAug, oIxL, sAugS, oAddI, sFor, eLc, iSeq, iRange1, iRange2, iEnum, tYes, oIsi, kdOf, oEq, oNe, eqT_int, eqT_nn, eqT_in, eqT_ni,   atI_0, atI_1, atI_2, atI_3, atI_4, atI_5, atI_6, atI_7, atI_8, atI_m1, ixN_0, ixN_1,   kdN_int, kdN_bool, kdN_str, kdN_list, kdN_tuple, isK, view_int, view_non, dep_int, dep_non, cN, cN2, wipeT,   mk_true, mk_false, put_same, put_put,   List.map_cons, List.map_nil, List.length_cons, List.length_nil, List.replicate, List.cons_append, List.nil_append, List.append_nil, List.set_cons_zero, List.set_cons_succ, List.getElem?_cons_zero, List.getElem?_cons_succ, List.getElem?_nil, Nat.reduceAdd, Nat.reduceSub, Nat.reduceLeDiff, Nat.reduceLT, Nat.reduceEqDiff, Option.isSome_some, Option.isSome_none, true_and, and_true, if_true, if_false, Bool.false_eq_true, Bool.not_true, Bool.not_false, reduceCtorEq, Nat.zero_add, Nat.zero_le, decide_eq_true_eq, Bool.not_eq_true', decide_eq_false_iff_not, ite_true, ite_false, Bool.if_false_right, Bool.if_true_left, decide_true, decide_false, Bool.true_or, Bool.or_true, Bool.false_or, Bool.or_false, Bool.true_and, Bool.and_true, Bool.false_and, Bool.and_false, List.length_map, not_true_eq_false, not_false_eq_true, false_and, and_false, bne_self_eq_false, Bool.not_eq_false])
  refine .inr ⟨_, _, _, hy, Z.ty_Book, Z.ki_Book_Book, ?_⟩
  (try simp only [hx, hy, lk_parts, C_Book_parts, lim, oOwn, oIsiC, view_bl, dep_bl, eqT_tt, eqT_ff, eqT_tf, eqT_ft, eDIn, eDGet, eDNew, eDc, keyT, eMakeX, eCallK, eRev, oRepr, eMeth, eProp, eFld, eMake, sRaise, sPar3, ends, startT, eVar, eC, eOp, tOf, eChain, tAndM, tOrM, tNotM, eAndV, eOrV, eNotV, eIf, aNil, aCons, eTup, eLst, eFrz, frzK, oI, oIC, oSub, oMod, oDiv, oPow, oLt, oLe, oGt, oGe, oAddI', oAddL, oMulI', oAdd, oMul, eNeg, oIsN, oNotN, oIx, atK, mNo, mPart, eSl, eCB, oLen, oInt, oSumL, oMax2, oMin2, oMax1, oMin1, oList, oBls, eCall, eBM, eBM0, isLs, oApp, oPop, oExt, lsOf, tTru, sNext, sSeq, sDrop, sRet, sRetN, sIf, sBreak, sCont, sNever, gN, gNil, gCons, gTup, setT, gSub, sAsg, sPar, sAug, oIxL, sAugS, oAddI, sFor, eLc, iSeq, iRange1, iRange2, iEnum, tYes, oIsi, kdOf, oEq, oNe, eqT_int, eqT_nn, eqT_in, eqT_ni,   atI_0, atI_1, atI_2, atI_3, atI_4, atI_5, atI_6, atI_7, atI_8, atI_m1, ixN_0, ixN_1,   kdN_int, kdN_bool, kdN_str, kdN_list, kdN_tuple, isK, view_int, view_non, dep_int, dep_non, cN, cN2, wipeT,   mk_true, mk_false, put_same, put_put,   List.map_cons, List.map_nil, List.length_cons, List.length_nil, List.replicate, List.cons_append, List.nil_append, List.append_nil, List.set_cons_zero, List.set_cons_succ, List.getElem?_cons_zero, List.getElem?_cons_succ, List.getElem?_nil, Nat.reduceAdd, Nat.reduceSub, Nat.reduceLeDiff, Nat.reduceLT, Nat.reduceEqDiff, Option.isSome_some, Option.isSome_none, true_and, and_true, if_true, if_false, Bool.false_eq_true, Bool.not_true, Bool.not_false, reduceCtorEq, Nat.zero_add, Nat.zero_le, decide_eq_true_eq, Bool.not_eq_true', decide_eq_false_iff_not, ite_true, ite_false, Bool.if_false_right, Bool.if_true_left, decide_true, decide_false, Bool.true_or, Bool.or_true, Bool.false_or, Bool.or_false, Bool.true_and, Bool.and_true, Bool.false_and, Bool.and_false, List.length_map, not_true_eq_false, not_false_eq_true, false_and, and_false, bne_self_eq_false, Bool.not_eq_false])
  refine ⟨x, f, r, t, b, rfl, hx', ?_⟩
  (try simp only [hx, hy, lk_parts, C_Book_parts, ptT, shT, lim, oOwn, oIsiC, view_bl, dep_bl, eqT_tt, eqT_ff, eqT_tf, eqT_ft, eDIn, eDGet, eDNew, eDc, keyT, eMakeX, eCallK, eRev, oRepr, eMeth, eProp, eFld, eMake, sRaise, sPar3, ends, startT, eVar, eC, eOp, tOf, eChain, tAndM, tOrM, tNotM, eAndV, eOrV, eNotV, eIf, aNil, aCons, eTup, eLst, eFrz, frzK, oI, oIC, oSub, oMod, oDiv, oPow, oLt, oLe, oGt, oGe, oAddI', oAddL, oMulI', oAdd, oMul, eNeg, oIsN, oNotN, oIx, atK, mNo, mPart, eSl, eCB, oLen, oInt, oSumL, oMax2, oMin2, oMax1, oMin1, oList, oBls, eCall, eBM, eBM0, isLs, oApp, oPop, oExt, lsOf, tTru, sNext, sSeq, sDrop, sRet, sRetN, sIf, sBreak, sCont, sNever, gN, gNil, gCons, gTup, setT, gSub, sAsg, sPar, sAug, oIxL, sAugS, oAddI, sFor, eLc, iSeq, iRange1, iRange2, iEnum, tYes, oIsi, kdOf, oEq, oNe, eqT_int, eqT_nn, eqT_in, eqT_ni,   atI_0, atI_1, atI_2, atI_3, atI_4, atI_5, atI_6, atI_7, atI_8, atI_m1, ixN_0, ixN_1,   kdN_int, kdN_bool, kdN_str, kdN_list, kdN_tuple, isK, view_int, view_non, dep_int, dep_non, cN, cN2, wipeT,   mk_true, mk_false, put_same, put_put,   List.map_cons, List.map_nil, List.length_cons, List.length_nil, List.replicate, List.cons_append, List.nil_append, List.append_nil, List.set_cons_zero, List.set_cons_succ, List.getElem?_cons_zero, List.getElem?_cons_succ, List.getElem?_nil, Nat.reduceAdd, Nat.reduceSub, Nat.reduceLeDiff, Nat.reduceLT, Nat.reduceEqDiff, Option.isSome_some, Option.isSome_none, true_and, and_true, if_true, if_false, Bool.false_eq_true, Bool.not_true, Bool.not_false, reduceCtorEq, Nat.zero_add, Nat.zero_le, decide_eq_true_eq, Bool.not_eq_true', decide_eq_false_iff_not, ite_true, ite_false, Bool.if_false_right, Bool.if_true_left, decide_true, decide_false, Bool.true_or, Bool.or_true, Bool.false_or, Bool.or_false, Bool.true_and, Bool.and_true, Bool.false_and, Bool.and_false, List.length_map, not_true_eq_false, not_false_eq_true, false_and, and_false, bne_self_eq_false, Bool.not_eq_false])
  refine ⟨y, f', r', t', b', rfl, hy', ?_⟩
  (try simp only [ptT, shT, lim, oOwn, oIsiC, view_bl, dep_bl, eqT_tt, eqT_ff, eqT_tf, eqT_ft, eDIn, eDGet, eDNew, eDc, keyT, eMakeX, eCallK, eRev, oRepr, eMeth, eProp, eFld, eMake, sRaise, sPar3, ends, startT, eVar, eC, eOp, tOf, eChain, tAndM, tOrM, tNotM, eAndV, eOrV, eNotV, eIf, aNil, aCons, eTup, eLst, eFrz, frzK, oI, oIC, oSub, oMod, oDiv, oPow, oLt, oLe, oGt, oGe, oAddI', oAddL, oMulI', oAdd, oMul, eNeg, oIsN, oNotN, oIx, atK, mNo, mPart, eSl, eCB, oLen, oInt, oSumL, oMax2, oMin2, oMax1, oMin1, oList, oBls, eCall, eBM, eBM0, isLs, oApp, oPop, oExt, lsOf, tTru, sNext, sSeq, sDrop, sRet, sRetN, sIf, sBreak, sCont, sNever, gN, gNil, gCons, gTup, setT, gSub, sAsg, sPar, sAug, oIxL, sAugS, oAddI, sFor, eLc, iSeq, iRange1, iRange2, iEnum, tYes, oIsi, kdOf, oEq, oNe, eqT_int, eqT_nn, eqT_in, eqT_ni,   atI_0, atI_1, atI_2, atI_3, atI_4, atI_5, atI_6, atI_7, atI_8, atI_m1, ixN_0, ixN_1,   kdN_int, kdN_bool, kdN_str, kdN_list, kdN_tuple, isK, view_int, view_non, dep_int, dep_non, cN, cN2, wipeT,   mk_true, mk_false, put_same, put_put,   List.map_cons, List.map_nil, List.length_cons, List.length_nil, List.replicate, List.cons_append, List.nil_append, List.append_nil, List.set_cons_zero, List.set_cons_succ, List.getElem?_cons_zero, List.getElem?_cons_succ, List.getElem?_nil, Nat.reduceAdd, Nat.reduceSub, Nat.reduceLeDiff, Nat.reduceLT, Nat.reduceEqDiff, Option.isSome_some, Option.isSome_none, true_and, and_true, if_true, if_false, Bool.false_eq_true, Bool.not_true, Bool.not_false, reduceCtorEq, Nat.zero_add, Nat.zero_le, decide_eq_true_eq, Bool.not_eq_true', decide_eq_false_iff_not, ite_true, ite_false, Bool.if_false_right, Bool.if_true_left, decide_true, decide_false, Bool.true_or, Bool.or_true, Bool.false_or, Bool.or_false, Bool.true_and, Bool.and_true, Bool.false_and, Bool.and_false, List.length_map, not_true_eq_false, not_false_eq_true, false_and, and_false, bne_self_eq_false, Bool.not_eq_false])
  exact ⟨rfl, rfl, dn_self q⟩
theorem pl_law_made (Z : Tx K mg a) : ∀ ts h Q E, ts.length = 1 → C_law_made a ts h Q E → B_law_made K a (ends Q E) (startT N_law_made.length ts) h := by
  rintro ts h Q E - ⟨f, r, t, b, rfl, o, q⟩
  unfold B_law_made
  (try simp only [ptT, C_Book___init__, lim, oOwn, oIsiC, view_bl, dep_bl, eqT_tt, eqT_ff, eqT_tf, eqT_ft, eDIn, eDGet, eDNew, eDc, keyT, eMakeX, eCallK, eRev, oRepr, eMeth, eProp, eFld, eMake, sRaise, sPar3, ends, startT, eVar, eC, eOp, tOf, eChain, tAndM, tOrM, tNotM, eAndV, eOrV, eNotV, eIf, aNil, aCons, eTup, eLst, eFrz, frzK, oI, oIC, oSub, oMod, oDiv, oPow, oLt, oLe, oGt, oGe, oAddI', oAddL, oMulI', oAdd, oMul, eNeg, oIsN, oNotN, oIx, atK, mNo, mPart, eSl, eCB, oLen, oInt, oSumL, oMax2, oMin2, oMax1, oMin1, oList, oBls, eCall, eBM, eBM0, isLs, oApp, oPop, oExt, lsOf, tTru, sNext, sSeq, sDrop, sRet, sRetN, sIf, sBreak, sCont, sNever, gN, gNil, gCons, gTup, setT, gSub, sAsg, sPar, sAug, oIxL, sAugS, oAddI, sFor, eLc, iSeq, iRange1, iRange2, iEnum, tYes, oIsi, kdOf, oEq, oNe, eqT_int, eqT_nn, eqT_in, eqT_ni,   atI_0, atI_1, atI_2, atI_3, atI_4, atI_5, atI_6, atI_7, atI_8, atI_m1, ixN_0, ixN_1,   kdN_int, kdN_bool, kdN_str, kdN_list, kdN_tuple, isK, view_int, view_non, dep_int, dep_non, cN, cN2, wipeT,   mk_true, mk_false, put_same, put_put,   List.map_cons, List.map_nil, List.length_cons, List.length_nil, List.replicate, List.cons_append, List.nil_append, List.append_nil, List.set_cons_zero, List.set_cons_succ, List.getElem?_cons_zero, List.getElem?_cons_succ, List.getElem?_nil, Nat.reduceAdd, Nat.reduceSub, Nat.reduceLeDiff, Nat.reduceLT, Nat.reduceEqDiff, Option.isSome_some, Option.isSome_none, true_and, and_true, if_true, if_false, Bool.false_eq_true, Bool.not_true, Bool.not_false, reduceCtorEq, Nat.zero_add, Nat.zero_le, decide_eq_true_eq, Bool.not_eq_true', decide_eq_false_iff_not, ite_true, ite_false, Bool.if_false_right, Bool.if_true_left, decide_true, decide_false, Bool.true_or, Bool.or_true, Bool.false_or, Bool.or_false, Bool.true_and, Bool.and_true, Bool.false_and, Bool.and_false, List.length_map, not_true_eq_false, not_false_eq_true, false_and, and_false, bne_self_eq_false, Bool.not_eq_false])
  intro p np
  refine ⟨p, f, r, t, b, rfl, o, put_same, ?_⟩
  rw [put_put]
  exact dn_self (q p np)
theorem pl_law_small : ∀ ts h Q E, ts.length = 1 → C_law_small ts h Q E → B_law_small (ends Q E) (startT N_law_small.length ts) h := by
  rintro ts h Q E - ⟨p, rfl, hp, q⟩
  unfold B_law_small
  (try simp only [CDraw, lim, oOwn, oIsiC, view_bl, dep_bl, eqT_tt, eqT_ff, eqT_tf, eqT_ft, eDIn, eDGet, eDNew, eDc, keyT, eMakeX, eCallK, eRev, oRepr, eMeth, eProp, eFld, eMake, sRaise, sPar3, ends, startT, eVar, eC, eOp, tOf, eChain, tAndM, tOrM, tNotM, eAndV, eOrV, eNotV, eIf, aNil, aCons, eTup, eLst, eFrz, frzK, oI, oIC, oSub, oMod, oDiv, oPow, oLt, oLe, oGt, oGe, oAddI', oAddL, oMulI', oAdd, oMul, eNeg, oIsN, oNotN, oIx, atK, mNo, mPart, eSl, eCB, oLen, oInt, oSumL, oMax2, oMin2, oMax1, oMin1, oList, oBls, eCall, eBM, eBM0, isLs, oApp, oPop, oExt, lsOf, tTru, sNext, sSeq, sDrop, sRet, sRetN, sIf, sBreak, sCont, sNever, gN, gNil, gCons, gTup, setT, gSub, sAsg, sPar, sAug, oIxL, sAugS, oAddI, sFor, eLc, iSeq, iRange1, iRange2, iEnum, tYes, oIsi, kdOf, oEq, oNe, eqT_int, eqT_nn, eqT_in, eqT_ni,   atI_0, atI_1, atI_2, atI_3, atI_4, atI_5, atI_6, atI_7, atI_8, atI_m1, ixN_0, ixN_1,   kdN_int, kdN_bool, kdN_str, kdN_list, kdN_tuple, isK, view_int, view_non, dep_int, dep_non, cN, cN2, wipeT,   mk_true, mk_false, put_same, put_put,   List.map_cons, List.map_nil, List.length_cons, List.length_nil, List.replicate, List.cons_append, List.nil_append, List.append_nil, List.set_cons_zero, List.set_cons_succ, List.getElem?_cons_zero, List.getElem?_cons_succ, List.getElem?_nil, Nat.reduceAdd, Nat.reduceSub, Nat.reduceLeDiff, Nat.reduceLT, Nat.reduceEqDiff, Option.isSome_some, Option.isSome_none, true_and, and_true, if_true, if_false, Bool.false_eq_true, Bool.not_true, Bool.not_false, reduceCtorEq, Nat.zero_add, Nat.zero_le, decide_eq_true_eq, Bool.not_eq_true', decide_eq_false_iff_not, ite_true, ite_false, Bool.if_false_right, Bool.if_true_left, decide_true, decide_false, Bool.true_or, Bool.or_true, Bool.false_or, Bool.or_false, Bool.true_and, Bool.and_true, Bool.false_and, Bool.and_false, List.length_map, not_true_eq_false, not_false_eq_true, false_and, and_false, bne_self_eq_false, Bool.not_eq_false])
  refine ⟨p, 5, rfl, by decide, by decide, hp, fun w w0 w1 => ?_⟩
  refine ⟨p, 9, rfl, by decide, by decide, hp, fun v v0 v1 => ?_⟩
  refine ⟨p, 9, rfl, by decide, by decide, hp, fun x x0 x1 => ?_⟩
  refine ⟨p, 9, rfl, by decide, by decide, hp, fun y y0 y1 => ?_⟩
  refine dn_self (q (1 + w) (1 + w + v) (1 + x) (1 + y) ⟨by omega, by omega, ?_, by omega, by omega, by omega, by omega⟩ (by omega) (by omega))
  exact Int.le_trans (show 1 + w + v ≤ 13 by omega) (by decide)
theorem pl_law_book : ∀ ts h Q E, ts.length = 1 → C_law_draws ts h Q E → B_law_book (ends Q E) (startT N_law_book.length ts) h := by
  rintro ts h Q E - ⟨p, rfl, hp, q⟩
  unfold B_law_book
  (try simp only [CDraw, lim, oOwn, oIsiC, view_bl, dep_bl, eqT_tt, eqT_ff, eqT_tf, eqT_ft, eDIn, eDGet, eDNew, eDc, keyT, eMakeX, eCallK, eRev, oRepr, eMeth, eProp, eFld, eMake, sRaise, sPar3, ends, startT, eVar, eC, eOp, tOf, eChain, tAndM, tOrM, tNotM, eAndV, eOrV, eNotV, eIf, aNil, aCons, eTup, eLst, eFrz, frzK, oI, oIC, oSub, oMod, oDiv, oPow, oLt, oLe, oGt, oGe, oAddI', oAddL, oMulI', oAdd, oMul, eNeg, oIsN, oNotN, oIx, atK, mNo, mPart, eSl, eCB, oLen, oInt, oSumL, oMax2, oMin2, oMax1, oMin1, oList, oBls, eCall, eBM, eBM0, isLs, oApp, oPop, oExt, lsOf, tTru, sNext, sSeq, sDrop, sRet, sRetN, sIf, sBreak, sCont, sNever, gN, gNil, gCons, gTup, setT, gSub, sAsg, sPar, sAug, oIxL, sAugS, oAddI, sFor, eLc, iSeq, iRange1, iRange2, iEnum, tYes, oIsi, kdOf, oEq, oNe, eqT_int, eqT_nn, eqT_in, eqT_ni,   atI_0, atI_1, atI_2, atI_3, atI_4, atI_5, atI_6, atI_7, atI_8, atI_m1, ixN_0, ixN_1,   kdN_int, kdN_bool, kdN_str, kdN_list, kdN_tuple, isK, view_int, view_non, dep_int, dep_non, cN, cN2, wipeT,   mk_true, mk_false, put_same, put_put,   List.map_cons, List.map_nil, List.length_cons, List.length_nil, List.replicate, List.cons_append, List.nil_append, List.append_nil, List.set_cons_zero, List.set_cons_succ, List.getElem?_cons_zero, List.getElem?_cons_succ, List.getElem?_nil, Nat.reduceAdd, Nat.reduceSub, Nat.reduceLeDiff, Nat.reduceLT, Nat.reduceEqDiff, Option.isSome_some, Option.isSome_none, true_and, and_true, if_true, if_false, Bool.false_eq_true, Bool.not_true, Bool.not_false, reduceCtorEq, Nat.zero_add, Nat.zero_le, decide_eq_true_eq, Bool.not_eq_true', decide_eq_false_iff_not, ite_true, ite_false, Bool.if_false_right, Bool.if_true_left, decide_true, decide_false, Bool.true_or, Bool.or_true, Bool.false_or, Bool.or_false, Bool.true_and, Bool.and_true, Bool.false_and, Bool.and_false, List.length_map, not_true_eq_false, not_false_eq_true, false_and, and_false, bne_self_eq_false, Bool.not_eq_false])
  refine ⟨p, 6, rfl, by decide, by decide, hp, fun w w0 w1 => ?_⟩
  refine ⟨p, 6, rfl, by decide, by decide, hp, fun v v0 v1 => ?_⟩
  have c1 : ∃ d : Int, atI ([.int 1, .int 1, .int 2, .int 3, .int (1 + w), .int (10 ^ 30)] : List T) v = some (T.int d) ∧ 1 ≤ d ∧ d ≤ 10 ^ 30 := by
    have : v = 0 ∨ v = 1 ∨ v = 2 ∨ v = 3 ∨ v = 4 ∨ v = 5 := by omega
    rcases this with rfl | rfl | rfl | rfl | rfl | rfl
    · exact ⟨_, rfl, by decide, by decide⟩
    · exact ⟨_, rfl, by decide, by decide⟩
    · exact ⟨_, rfl, by decide, by decide⟩
    · exact ⟨_, rfl, by decide, by decide⟩
    · exact ⟨_, rfl, by omega, Int.le_trans (show 1 + w ≤ 6 by omega) (by decide)⟩
    · exact ⟨_, rfl, by decide, by decide⟩
  obtain ⟨f, e1, f1, f2⟩ := c1
  (try simp only [e1, lim, oOwn, oIsiC, view_bl, dep_bl, eqT_tt, eqT_ff, eqT_tf, eqT_ft, eDIn, eDGet, eDNew, eDc, keyT, eMakeX, eCallK, eRev, oRepr, eMeth, eProp, eFld, eMake, sRaise, sPar3, ends, startT, eVar, eC, eOp, tOf, eChain, tAndM, tOrM, tNotM, eAndV, eOrV, eNotV, eIf, aNil, aCons, eTup, eLst, eFrz, frzK, oI, oIC, oSub, oMod, oDiv, oPow, oLt, oLe, oGt, oGe, oAddI', oAddL, oMulI', oAdd, oMul, eNeg, oIsN, oNotN, oIx, atK, mNo, mPart, eSl, eCB, oLen, oInt, oSumL, oMax2, oMin2, oMax1, oMin1, oList, oBls, eCall, eBM, eBM0, isLs, oApp, oPop, oExt, lsOf, tTru, sNext, sSeq, sDrop, sRet, sRetN, sIf, sBreak, sCont, sNever, gN, gNil, gCons, gTup, setT, gSub, sAsg, sPar, sAug, oIxL, sAugS, oAddI, sFor, eLc, iSeq, iRange1, iRange2, iEnum, tYes, oIsi, kdOf, oEq, oNe, eqT_int, eqT_nn, eqT_in, eqT_ni,   atI_0, atI_1, atI_2, atI_3, atI_4, atI_5, atI_6, atI_7, atI_8, atI_m1, ixN_0, ixN_1,   kdN_int, kdN_bool, kdN_str, kdN_list, kdN_tuple, isK, view_int, view_non, dep_int, dep_non, cN, cN2, wipeT,   mk_true, mk_false, put_same, put_put,   List.map_cons, List.map_nil, List.length_cons, List.length_nil, List.replicate, List.cons_append, List.nil_append, List.append_nil, List.set_cons_zero, List.set_cons_succ, List.getElem?_cons_zero, List.getElem?_cons_succ, List.getElem?_nil, Nat.reduceAdd, Nat.reduceSub, Nat.reduceLeDiff, Nat.reduceLT, Nat.reduceEqDiff, Option.isSome_some, Option.isSome_none, true_and, and_true, if_true, if_false, Bool.false_eq_true, Bool.not_true, Bool.not_false, reduceCtorEq, Nat.zero_add, Nat.zero_le, decide_eq_true_eq, Bool.not_eq_true', decide_eq_false_iff_not, ite_true, ite_false, Bool.if_false_right, Bool.if_true_left, decide_true, decide_false, Bool.true_or, Bool.or_true, Bool.false_or, Bool.or_false, Bool.true_and, Bool.and_true, Bool.false_and, Bool.and_false, List.length_map, not_true_eq_false, not_false_eq_true, false_and, and_false, bne_self_eq_false, Bool.not_eq_false])
  refine ⟨p, 12, rfl, by decide, by decide, hp, fun x x0 x1 => ?_⟩
  refine ⟨p, 40, rfl, by decide, by decide, hp, fun y y0 y1 => ?_⟩
  refine ⟨p, 6, rfl, by decide, by decide, hp, fun z z0 z1 => ?_⟩
  have c2 : ∃ d : Int, atI ([.int 0, .int 0, .int 1, .int x, .int (5 + y), .int (10 ^ 30)] : List T) z = some (T.int d) ∧ 0 ≤ d := by
    have : z = 0 ∨ z = 1 ∨ z = 2 ∨ z = 3 ∨ z = 4 ∨ z = 5 := by omega
    rcases this with rfl | rfl | rfl | rfl | rfl | rfl
    · exact ⟨_, rfl, by decide⟩
    · exact ⟨_, rfl, by decide⟩
    · exact ⟨_, rfl, by decide⟩
    · exact ⟨_, rfl, by omega⟩
    · exact ⟨_, rfl, by omega⟩
    · exact ⟨_, rfl, by decide⟩
  obtain ⟨d, e2, d0⟩ := c2
  (try simp only [e2, lim, oOwn, oIsiC, view_bl, dep_bl, eqT_tt, eqT_ff, eqT_tf, eqT_ft, eDIn, eDGet, eDNew, eDc, keyT, eMakeX, eCallK, eRev, oRepr, eMeth, eProp, eFld, eMake, sRaise, sPar3, ends, startT, eVar, eC, eOp, tOf, eChain, tAndM, tOrM, tNotM, eAndV, eOrV, eNotV, eIf, aNil, aCons, eTup, eLst, eFrz, frzK, oI, oIC, oSub, oMod, oDiv, oPow, oLt, oLe, oGt, oGe, oAddI', oAddL, oMulI', oAdd, oMul, eNeg, oIsN, oNotN, oIx, atK, mNo, mPart, eSl, eCB, oLen, oInt, oSumL, oMax2, oMin2, oMax1, oMin1, oList, oBls, eCall, eBM, eBM0, isLs, oApp, oPop, oExt, lsOf, tTru, sNext, sSeq, sDrop, sRet, sRetN, sIf, sBreak, sCont, sNever, gN, gNil, gCons, gTup, setT, gSub, sAsg, sPar, sAug, oIxL, sAugS, oAddI, sFor, eLc, iSeq, iRange1, iRange2, iEnum, tYes, oIsi, kdOf, oEq, oNe, eqT_int, eqT_nn, eqT_in, eqT_ni,   atI_0, atI_1, atI_2, atI_3, atI_4, atI_5, atI_6, atI_7, atI_8, atI_m1, ixN_0, ixN_1,   kdN_int, kdN_bool, kdN_str, kdN_list, kdN_tuple, isK, view_int, view_non, dep_int, dep_non, cN, cN2, wipeT,   mk_true, mk_false, put_same, put_put,   List.map_cons, List.map_nil, List.length_cons, List.length_nil, List.replicate, List.cons_append, List.nil_append, List.append_nil, List.set_cons_zero, List.set_cons_succ, List.getElem?_cons_zero, List.getElem?_cons_succ, List.getElem?_nil, Nat.reduceAdd, Nat.reduceSub, Nat.reduceLeDiff, Nat.reduceLT, Nat.reduceEqDiff, Option.isSome_some, Option.isSome_none, true_and, and_true, if_true, if_false, Bool.false_eq_true, Bool.not_true, Bool.not_false, reduceCtorEq, Nat.zero_add, Nat.zero_le, decide_eq_true_eq, Bool.not_eq_true', decide_eq_false_iff_not, ite_true, ite_false, Bool.if_false_right, Bool.if_true_left, decide_true, decide_false, Bool.true_or, Bool.or_true, Bool.false_or, Bool.or_false, Bool.true_and, Bool.and_true, Bool.false_and, Bool.and_false, List.length_map, not_true_eq_false, not_false_eq_true, false_and, and_false, bne_self_eq_false, Bool.not_eq_false])
  refine ⟨p, 100, rfl, by decide, by decide, hp, fun t' t0 t1 => ?_⟩
  refine ⟨p, 100, rfl, by decide, by decide, hp, fun b' b0 b1 => ?_⟩
  refine ⟨p, 5, rfl, by decide, by decide, hp, fun u u0 u1 => ?_⟩
  have c3 : ∃ t b : Int, atI ([.tup [.int 1, .int 1], .tup [.int 1, .int 1], .tup [.int 1, .int 2], .tup [.int 2, .int 1], .tup [.int (1 + t'), .int (1 + b')]] : List T) u = some (shT t b) ∧ 1 ≤ t ∧ t ≤ 100 ∧ 1 ≤ b ∧ b ≤ 100 := by
    have : u = 0 ∨ u = 1 ∨ u = 2 ∨ u = 3 ∨ u = 4 := by omega
    rcases this with rfl | rfl | rfl | rfl | rfl
    · exact ⟨_, _, rfl, by decide, by decide, by decide, by decide⟩
    · exact ⟨_, _, rfl, by decide, by decide, by decide, by decide⟩
    · exact ⟨_, _, rfl, by decide, by decide, by decide, by decide⟩
    · exact ⟨_, _, rfl, by decide, by decide, by decide, by decide⟩
    · exact ⟨_, _, rfl, by omega, by omega, by omega, by omega⟩
  obtain ⟨t, b, e3, t1, t2, b1, b2⟩ := c3
  (try simp only [e3, lim, oOwn, oIsiC, view_bl, dep_bl, eqT_tt, eqT_ff, eqT_tf, eqT_ft, eDIn, eDGet, eDNew, eDc, keyT, eMakeX, eCallK, eRev, oRepr, eMeth, eProp, eFld, eMake, sRaise, sPar3, ends, startT, eVar, eC, eOp, tOf, eChain, tAndM, tOrM, tNotM, eAndV, eOrV, eNotV, eIf, aNil, aCons, eTup, eLst, eFrz, frzK, oI, oIC, oSub, oMod, oDiv, oPow, oLt, oLe, oGt, oGe, oAddI', oAddL, oMulI', oAdd, oMul, eNeg, oIsN, oNotN, oIx, atK, mNo, mPart, eSl, eCB, oLen, oInt, oSumL, oMax2, oMin2, oMax1, oMin1, oList, oBls, eCall, eBM, eBM0, isLs, oApp, oPop, oExt, lsOf, tTru, sNext, sSeq, sDrop, sRet, sRetN, sIf, sBreak, sCont, sNever, gN, gNil, gCons, gTup, setT, gSub, sAsg, sPar, sAug, oIxL, sAugS, oAddI, sFor, eLc, iSeq, iRange1, iRange2, iEnum, tYes, oIsi, kdOf, oEq, oNe, eqT_int, eqT_nn, eqT_in, eqT_ni,   atI_0, atI_1, atI_2, atI_3, atI_4, atI_5, atI_6, atI_7, atI_8, atI_m1, ixN_0, ixN_1,   kdN_int, kdN_bool, kdN_str, kdN_list, kdN_tuple, isK, view_int, view_non, dep_int, dep_non, cN, cN2, wipeT,   mk_true, mk_false, put_same, put_put,   List.map_cons, List.map_nil, List.length_cons, List.length_nil, List.replicate, List.cons_append, List.nil_append, List.append_nil, List.set_cons_zero, List.set_cons_succ, List.getElem?_cons_zero, List.getElem?_cons_succ, List.getElem?_nil, Nat.reduceAdd, Nat.reduceSub, Nat.reduceLeDiff, Nat.reduceLT, Nat.reduceEqDiff, Option.isSome_some, Option.isSome_none, true_and, and_true, if_true, if_false, Bool.false_eq_true, Bool.not_true, Bool.not_false, reduceCtorEq, Nat.zero_add, Nat.zero_le, decide_eq_true_eq, Bool.not_eq_true', decide_eq_false_iff_not, ite_true, ite_false, Bool.if_false_right, Bool.if_true_left, decide_true, decide_false, Bool.true_or, Bool.or_true, Bool.false_or, Bool.or_false, Bool.true_and, Bool.and_true, Bool.false_and, Bool.and_false, List.length_map, not_true_eq_false, not_false_eq_true, false_and, and_false, bne_self_eq_false, Bool.not_eq_false])
  refine dn_self (q f _ t b ⟨f1, ?_, ?_, t1, t2, b1, b2⟩)
  · split <;> omega
  · split <;> omega
end
end TL

namespace TL
open PySem L2

section
theorem nm_loop {f r t b f' r' t' b' : Int} (o : GB.Ok f r t b) (o' : GB.Ok f' r' t' b') {D : En} {h : Hq} {x2 x3 x4 x5 x6 x7 x8 : Option T} {beg lst : Int}
    (hy : (∀ k, beg ≤ k → k ≤ lst → GB.step f r t b k ≤ GB.step f' r' t' b' k) → ∀ z, D.nx [some (ptT f r t b), some (ptT f' r' t' b'), x2, x3, x4, x5, x6, x7, z] h)
    (hn : ∀ k, beg ≤ k → k ≤ lst → GB.step f' r' t' b' k < GB.step f r t b k → D.rt (.bl false) h) :
    ForK (rng beg (lst + 1 - beg).toNat) (fun _ => True) (gN 8) (sIf (tOf (eOp oGt (eFrz (eCall 2 C_step_of (aCons (eVar 0) (aCons (eVar 8) aNil)))) (eFrz (eCall 2 C_step_of (aCons (eVar 1) (aCons (eVar 8) aNil)))))) (sRet (eC (.bl false))) sNext) D [some (ptT f r t b), some (ptT f' r' t' b'), x2, x3, x4, x5, x6, x7, x8] h := by
  refine forK_go (fun i s h' => h' = h ∧ (∀ k : Int, beg ≤ k → k < beg + i → GB.step f r t b k ≤ GB.step f' r' t' b' k) ∧ ∃ z, s = [some (ptT f r t b), some (ptT f' r' t' b'), x2, x3, x4, x5, x6, x7, z]) ⟨rfl, fun k h1 h2 => by omega, _, rfl⟩ ?_ ?_
  · rintro s h' ⟨rfl, hv, z, rfl⟩
    rw [rng_len] at hv
    exact ⟨trivial, hy (fun k h1 h2 => hv k h1 (by omega)) z⟩
  · rintro i z s h' e ⟨rfl, hv, x2, rfl⟩
    obtain ⟨hi, rfl⟩ := rng_at e
    refine ⟨trivial, ?_⟩
    (try simp only [C_step_of, lim, oOwn, oIsiC, view_bl, dep_bl, eqT_tt, eqT_ff, eqT_tf, eqT_ft, eDIn, eDGet, eDNew, eDc, keyT, eMakeX, eCallK, eRev, oRepr, eMeth, eProp, eFld, eMake, sRaise, sPar3, ends, startT, eVar, eC, eOp, tOf, eChain, tAndM, tOrM, tNotM, eAndV, eOrV, eNotV, eIf, aNil, aCons, eTup, eLst, eFrz, frzK, oI, oIC, oSub, oMod, oDiv, oPow, oLt, oLe, oGt, oGe, oAddI', oAddL, oMulI', oAdd, oMul, eNeg, oIsN, oNotN, oIx, atK, mNo, mPart, eSl, eCB, oLen, oInt, oSumL, oMax2, oMin2, oMax1, oMin1, oList, oBls, eCall, eBM, eBM0, isLs, oApp, oPop, oExt, lsOf, tTru, sNext, sSeq, sDrop, sRet, sRetN, sIf, sBreak, sCont, sNever, gN, gNil, gCons, gTup, setT, gSub, sAsg, sPar, sAug, oIxL, sAugS, oAddI, sFor, eLc, iSeq, iRange1, iRange2, iEnum, tYes, oIsi, kdOf, oEq, oNe, eqT_int, eqT_nn, eqT_in, eqT_ni,   atI_0, atI_1, atI_2, atI_3, atI_4, atI_5, atI_6, atI_7, atI_8, atI_m1, ixN_0, ixN_1,   kdN_int, kdN_bool, kdN_str, kdN_list, kdN_tuple, isK, view_int, view_non, dep_int, dep_non, cN, cN2, wipeT,   mk_true, mk_false, put_same, put_put,   List.map_cons, List.map_nil, List.length_cons, List.length_nil, List.replicate, List.cons_append, List.nil_append, List.append_nil, List.set_cons_zero, List.set_cons_succ, List.getElem?_cons_zero, List.getElem?_cons_succ, List.getElem?_nil, Nat.reduceAdd, Nat.reduceSub, Nat.reduceLeDiff, Nat.reduceLT, Nat.reduceEqDiff, Option.isSome_some, Option.isSome_none, true_and, and_true, if_true, if_false, Bool.false_eq_true, Bool.not_true, Bool.not_false, reduceCtorEq, Nat.zero_add, Nat.zero_le, decide_eq_true_eq, Bool.not_eq_true', decide_eq_false_iff_not, ite_true, ite_false, Bool.if_false_right, Bool.if_true_left, decide_true, decide_false, Bool.true_or, Bool.or_true, Bool.false_or, Bool.or_false, Bool.true_and, Bool.and_true, Bool.false_and, Bool.and_false, List.length_map, not_true_eq_false, not_false_eq_true, false_and, and_false, bne_self_eq_false, Bool.not_eq_false])
    refine ⟨f, r, t, b, _, rfl, o, f', r', t', b', _, rfl, o', ?_⟩
    by_cases c : GB.step f r t b (beg + (i : Int)) > GB.step f' r' t' b' (beg + (i : Int))
    · (try simp only [c, lim, oOwn, oIsiC, view_bl, dep_bl, eqT_tt, eqT_ff, eqT_tf, eqT_ft, eDIn, eDGet, eDNew, eDc, keyT, eMakeX, eCallK, eRev, oRepr, eMeth, eProp, eFld, eMake, sRaise, sPar3, ends, startT, eVar, eC, eOp, tOf, eChain, tAndM, tOrM, tNotM, eAndV, eOrV, eNotV, eIf, aNil, aCons, eTup, eLst, eFrz, frzK, oI, oIC, oSub, oMod, oDiv, oPow, oLt, oLe, oGt, oGe, oAddI', oAddL, oMulI', oAdd, oMul, eNeg, oIsN, oNotN, oIx, atK, mNo, mPart, eSl, eCB, oLen, oInt, oSumL, oMax2, oMin2, oMax1, oMin1, oList, oBls, eCall, eBM, eBM0, isLs, oApp, oPop, oExt, lsOf, tTru, sNext, sSeq, sDrop, sRet, sRetN, sIf, sBreak, sCont, sNever, gN, gNil, gCons, gTup, setT, gSub, sAsg, sPar, sAug, oIxL, sAugS, oAddI, sFor, eLc, iSeq, iRange1, iRange2, iEnum, tYes, oIsi, kdOf, oEq, oNe, eqT_int, eqT_nn, eqT_in, eqT_ni,   atI_0, atI_1, atI_2, atI_3, atI_4, atI_5, atI_6, atI_7, atI_8, atI_m1, ixN_0, ixN_1,   kdN_int, kdN_bool, kdN_str, kdN_list, kdN_tuple, isK, view_int, view_non, dep_int, dep_non, cN, cN2, wipeT,   mk_true, mk_false, put_same, put_put,   List.map_cons, List.map_nil, List.length_cons, List.length_nil, List.replicate, List.cons_append, List.nil_append, List.append_nil, List.set_cons_zero, List.set_cons_succ, List.getElem?_cons_zero, List.getElem?_cons_succ, List.getElem?_nil, Nat.reduceAdd, Nat.reduceSub, Nat.reduceLeDiff, Nat.reduceLT, Nat.reduceEqDiff, Option.isSome_some, Option.isSome_none, true_and, and_true, if_true, if_false, Bool.false_eq_true, Bool.not_true, Bool.not_false, reduceCtorEq, Nat.zero_add, Nat.zero_le, decide_eq_true_eq, Bool.not_eq_true', decide_eq_false_iff_not, ite_true, ite_false, Bool.if_false_right, Bool.if_true_left, decide_true, decide_false, Bool.true_or, Bool.or_true, Bool.false_or, Bool.or_false, Bool.true_and, Bool.and_true, Bool.false_and, Bool.and_false, List.length_map, not_true_eq_false, not_false_eq_true, false_and, and_false, bne_self_eq_false, Bool.not_eq_false])
      exact hn _ (by omega) (by omega) c
    · (try simp only [c, lim, oOwn, oIsiC, view_bl, dep_bl, eqT_tt, eqT_ff, eqT_tf, eqT_ft, eDIn, eDGet, eDNew, eDc, keyT, eMakeX, eCallK, eRev, oRepr, eMeth, eProp, eFld, eMake, sRaise, sPar3, ends, startT, eVar, eC, eOp, tOf, eChain, tAndM, tOrM, tNotM, eAndV, eOrV, eNotV, eIf, aNil, aCons, eTup, eLst, eFrz, frzK, oI, oIC, oSub, oMod, oDiv, oPow, oLt, oLe, oGt, oGe, oAddI', oAddL, oMulI', oAdd, oMul, eNeg, oIsN, oNotN, oIx, atK, mNo, mPart, eSl, eCB, oLen, oInt, oSumL, oMax2, oMin2, oMax1, oMin1, oList, oBls, eCall, eBM, eBM0, isLs, oApp, oPop, oExt, lsOf, tTru, sNext, sSeq, sDrop, sRet, sRetN, sIf, sBreak, sCont, sNever, gN, gNil, gCons, gTup, setT, gSub, sAsg, sPar, sAug, oIxL, sAugS, oAddI, sFor, eLc, iSeq, iRange1, iRange2, iEnum, tYes, oIsi, kdOf, oEq, oNe, eqT_int, eqT_nn, eqT_in, eqT_ni,   atI_0, atI_1, atI_2, atI_3, atI_4, atI_5, atI_6, atI_7, atI_8, atI_m1, ixN_0, ixN_1,   kdN_int, kdN_bool, kdN_str, kdN_list, kdN_tuple, isK, view_int, view_non, dep_int, dep_non, cN, cN2, wipeT,   mk_true, mk_false, put_same, put_put,   List.map_cons, List.map_nil, List.length_cons, List.length_nil, List.replicate, List.cons_append, List.nil_append, List.append_nil, List.set_cons_zero, List.set_cons_succ, List.getElem?_cons_zero, List.getElem?_cons_succ, List.getElem?_nil, Nat.reduceAdd, Nat.reduceSub, Nat.reduceLeDiff, Nat.reduceLT, Nat.reduceEqDiff, Option.isSome_some, Option.isSome_none, true_and, and_true, if_true, if_false, Bool.false_eq_true, Bool.not_true, Bool.not_false, reduceCtorEq, Nat.zero_add, Nat.zero_le, decide_eq_true_eq, Bool.not_eq_true', decide_eq_false_iff_not, ite_true, ite_false, Bool.if_false_right, Bool.if_true_left, decide_true, decide_false, Bool.true_or, Bool.or_true, Bool.false_or, Bool.or_false, Bool.true_and, Bool.and_true, Bool.false_and, Bool.and_false, List.length_map, not_true_eq_false, not_false_eq_true, false_and, and_false, bne_self_eq_false, Bool.not_eq_false])
      refine ⟨fun k h1 h2 => ?_, _, rfl⟩
      by_cases ck : k < beg + (i : Int)
      · exact hv k h1 ck
      · have : k = beg + (i : Int) := by omega
        rw [this]; omega
theorem pl_is_never_more : ∀ ts h Q E, ts.length = 2 → C_is_never_more ts h Q E → B_is_never_more (ends Q E) (startT N_is_never_more.length ts) h := by
  rintro ts h Q E - ⟨f, r, t, b, f', r', t', b', rfl, o, o', hf, hr, q⟩
  unfold B_is_never_more
  obtain ⟨f1, fr, r1, t1, t2, b1, b2⟩ := id o
  obtain ⟨f1', fr', r1', t1', t2', b1', b2'⟩ := id o'
  (try simp only [ptT, shT, eqT_int, lim, oOwn, oIsiC, view_bl, dep_bl, eqT_tt, eqT_ff, eqT_tf, eqT_ft, eDIn, eDGet, eDNew, eDc, keyT, eMakeX, eCallK, eRev, oRepr, eMeth, eProp, eFld, eMake, sRaise, sPar3, ends, startT, eVar, eC, eOp, tOf, eChain, tAndM, tOrM, tNotM, eAndV, eOrV, eNotV, eIf, aNil, aCons, eTup, eLst, eFrz, frzK, oI, oIC, oSub, oMod, oDiv, oPow, oLt, oLe, oGt, oGe, oAddI', oAddL, oMulI', oAdd, oMul, eNeg, oIsN, oNotN, oIx, atK, mNo, mPart, eSl, eCB, oLen, oInt, oSumL, oMax2, oMin2, oMax1, oMin1, oList, oBls, eCall, eBM, eBM0, isLs, oApp, oPop, oExt, lsOf, tTru, sNext, sSeq, sDrop, sRet, sRetN, sIf, sBreak, sCont, sNever, gN, gNil, gCons, gTup, setT, gSub, sAsg, sPar, sAug, oIxL, sAugS, oAddI, sFor, eLc, iSeq, iRange1, iRange2, iEnum, tYes, oIsi, kdOf, oEq, oNe, eqT_int, eqT_nn, eqT_in, eqT_ni,   atI_0, atI_1, atI_2, atI_3, atI_4, atI_5, atI_6, atI_7, atI_8, atI_m1, ixN_0, ixN_1,   kdN_int, kdN_bool, kdN_str, kdN_list, kdN_tuple, isK, view_int, view_non, dep_int, dep_non, cN, cN2, wipeT,   mk_true, mk_false, put_same, put_put,   List.map_cons, List.map_nil, List.length_cons, List.length_nil, List.replicate, List.cons_append, List.nil_append, List.append_nil, List.set_cons_zero, List.set_cons_succ, List.getElem?_cons_zero, List.getElem?_cons_succ, List.getElem?_nil, Nat.reduceAdd, Nat.reduceSub, Nat.reduceLeDiff, Nat.reduceLT, Nat.reduceEqDiff, Option.isSome_some, Option.isSome_none, true_and, and_true, if_true, if_false, Bool.false_eq_true, Bool.not_true, Bool.not_false, reduceCtorEq, Nat.zero_add, Nat.zero_le, decide_eq_true_eq, Bool.not_eq_true', decide_eq_false_iff_not, ite_true, ite_false, Bool.if_false_right, Bool.if_true_left, decide_true, decide_false, Bool.true_or, Bool.or_true, Bool.false_or, Bool.or_false, Bool.true_and, Bool.and_true, Bool.false_and, Bool.and_false, List.length_map, not_true_eq_false, not_false_eq_true, false_and, and_false, bne_self_eq_false, Bool.not_eq_false])
  refine ⟨.inr (.inl (by omega)), .inr (.inl (by omega)), ?_⟩
  by_cases c1 : t * b' ≤ t' * b
  · (try simp only [c1, lim, oOwn, oIsiC, view_bl, dep_bl, eqT_tt, eqT_ff, eqT_tf, eqT_ft, eDIn, eDGet, eDNew, eDc, keyT, eMakeX, eCallK, eRev, oRepr, eMeth, eProp, eFld, eMake, sRaise, sPar3, ends, startT, eVar, eC, eOp, tOf, eChain, tAndM, tOrM, tNotM, eAndV, eOrV, eNotV, eIf, aNil, aCons, eTup, eLst, eFrz, frzK, oI, oIC, oSub, oMod, oDiv, oPow, oLt, oLe, oGt, oGe, oAddI', oAddL, oMulI', oAdd, oMul, eNeg, oIsN, oNotN, oIx, atK, mNo, mPart, eSl, eCB, oLen, oInt, oSumL, oMax2, oMin2, oMax1, oMin1, oList, oBls, eCall, eBM, eBM0, isLs, oApp, oPop, oExt, lsOf, tTru, sNext, sSeq, sDrop, sRet, sRetN, sIf, sBreak, sCont, sNever, gN, gNil, gCons, gTup, setT, gSub, sAsg, sPar, sAug, oIxL, sAugS, oAddI, sFor, eLc, iSeq, iRange1, iRange2, iEnum, tYes, oIsi, kdOf, oEq, oNe, eqT_int, eqT_nn, eqT_in, eqT_ni,   atI_0, atI_1, atI_2, atI_3, atI_4, atI_5, atI_6, atI_7, atI_8, atI_m1, ixN_0, ixN_1,   kdN_int, kdN_bool, kdN_str, kdN_list, kdN_tuple, isK, view_int, view_non, dep_int, dep_non, cN, cN2, wipeT,   mk_true, mk_false, put_same, put_put,   List.map_cons, List.map_nil, List.length_cons, List.length_nil, List.replicate, List.cons_append, List.nil_append, List.append_nil, List.set_cons_zero, List.set_cons_succ, List.getElem?_cons_zero, List.getElem?_cons_succ, List.getElem?_nil, Nat.reduceAdd, Nat.reduceSub, Nat.reduceLeDiff, Nat.reduceLT, Nat.reduceEqDiff, Option.isSome_some, Option.isSome_none, true_and, and_true, if_true, if_false, Bool.false_eq_true, Bool.not_true, Bool.not_false, reduceCtorEq, Nat.zero_add, Nat.zero_le, decide_eq_true_eq, Bool.not_eq_true', decide_eq_false_iff_not, ite_true, ite_false, Bool.if_false_right, Bool.if_true_left, decide_true, decide_false, Bool.true_or, Bool.or_true, Bool.false_or, Bool.or_false, Bool.true_and, Bool.and_true, Bool.false_and, Bool.and_false, List.length_map, not_true_eq_false, not_false_eq_true, false_and, and_false, bne_self_eq_false, Bool.not_eq_false])
    exact dn_self (q true ⟨fun _ => GB.le_flat o o' hf hr c1, fun _ => rfl⟩)
  · by_cases c2 : f = r
    · (try simp only [c1, c2, lim, oOwn, oIsiC, view_bl, dep_bl, eqT_tt, eqT_ff, eqT_tf, eqT_ft, eDIn, eDGet, eDNew, eDc, keyT, eMakeX, eCallK, eRev, oRepr, eMeth, eProp, eFld, eMake, sRaise, sPar3, ends, startT, eVar, eC, eOp, tOf, eChain, tAndM, tOrM, tNotM, eAndV, eOrV, eNotV, eIf, aNil, aCons, eTup, eLst, eFrz, frzK, oI, oIC, oSub, oMod, oDiv, oPow, oLt, oLe, oGt, oGe, oAddI', oAddL, oMulI', oAdd, oMul, eNeg, oIsN, oNotN, oIx, atK, mNo, mPart, eSl, eCB, oLen, oInt, oSumL, oMax2, oMin2, oMax1, oMin1, oList, oBls, eCall, eBM, eBM0, isLs, oApp, oPop, oExt, lsOf, tTru, sNext, sSeq, sDrop, sRet, sRetN, sIf, sBreak, sCont, sNever, gN, gNil, gCons, gTup, setT, gSub, sAsg, sPar, sAug, oIxL, sAugS, oAddI, sFor, eLc, iSeq, iRange1, iRange2, iEnum, tYes, oIsi, kdOf, oEq, oNe, eqT_int, eqT_nn, eqT_in, eqT_ni,   atI_0, atI_1, atI_2, atI_3, atI_4, atI_5, atI_6, atI_7, atI_8, atI_m1, ixN_0, ixN_1,   kdN_int, kdN_bool, kdN_str, kdN_list, kdN_tuple, isK, view_int, view_non, dep_int, dep_non, cN, cN2, wipeT,   mk_true, mk_false, put_same, put_put,   List.map_cons, List.map_nil, List.length_cons, List.length_nil, List.replicate, List.cons_append, List.nil_append, List.append_nil, List.set_cons_zero, List.set_cons_succ, List.getElem?_cons_zero, List.getElem?_cons_succ, List.getElem?_nil, Nat.reduceAdd, Nat.reduceSub, Nat.reduceLeDiff, Nat.reduceLT, Nat.reduceEqDiff, Option.isSome_some, Option.isSome_none, true_and, and_true, if_true, if_false, Bool.false_eq_true, Bool.not_true, Bool.not_false, reduceCtorEq, Nat.zero_add, Nat.zero_le, decide_eq_true_eq, Bool.not_eq_true', decide_eq_false_iff_not, ite_true, ite_false, Bool.if_false_right, Bool.if_true_left, decide_true, decide_false, Bool.true_or, Bool.or_true, Bool.false_or, Bool.or_false, Bool.true_and, Bool.and_true, Bool.false_and, Bool.and_false, List.length_map, not_true_eq_false, not_false_eq_true, false_and, and_false, bne_self_eq_false, Bool.not_eq_false])
      exact dn_self (q true ⟨fun _ => GB.le_const o o' hf c2, fun _ => rfl⟩)
    · (try simp only [c1, c2, C_least_hold, lim, oOwn, oIsiC, view_bl, dep_bl, eqT_tt, eqT_ff, eqT_tf, eqT_ft, eDIn, eDGet, eDNew, eDc, keyT, eMakeX, eCallK, eRev, oRepr, eMeth, eProp, eFld, eMake, sRaise, sPar3, ends, startT, eVar, eC, eOp, tOf, eChain, tAndM, tOrM, tNotM, eAndV, eOrV, eNotV, eIf, aNil, aCons, eTup, eLst, eFrz, frzK, oI, oIC, oSub, oMod, oDiv, oPow, oLt, oLe, oGt, oGe, oAddI', oAddL, oMulI', oAdd, oMul, eNeg, oIsN, oNotN, oIx, atK, mNo, mPart, eSl, eCB, oLen, oInt, oSumL, oMax2, oMin2, oMax1, oMin1, oList, oBls, eCall, eBM, eBM0, isLs, oApp, oPop, oExt, lsOf, tTru, sNext, sSeq, sDrop, sRet, sRetN, sIf, sBreak, sCont, sNever, gN, gNil, gCons, gTup, setT, gSub, sAsg, sPar, sAug, oIxL, sAugS, oAddI, sFor, eLc, iSeq, iRange1, iRange2, iEnum, tYes, oIsi, kdOf, oEq, oNe, eqT_int, eqT_nn, eqT_in, eqT_ni,   atI_0, atI_1, atI_2, atI_3, atI_4, atI_5, atI_6, atI_7, atI_8, atI_m1, ixN_0, ixN_1,   kdN_int, kdN_bool, kdN_str, kdN_list, kdN_tuple, isK, view_int, view_non, dep_int, dep_non, cN, cN2, wipeT,   mk_true, mk_false, put_same, put_put,   List.map_cons, List.map_nil, List.length_cons, List.length_nil, List.replicate, List.cons_append, List.nil_append, List.append_nil, List.set_cons_zero, List.set_cons_succ, List.getElem?_cons_zero, List.getElem?_cons_succ, List.getElem?_nil, Nat.reduceAdd, Nat.reduceSub, Nat.reduceLeDiff, Nat.reduceLT, Nat.reduceEqDiff, Option.isSome_some, Option.isSome_none, true_and, and_true, if_true, if_false, Bool.false_eq_true, Bool.not_true, Bool.not_false, reduceCtorEq, Nat.zero_add, Nat.zero_le, decide_eq_true_eq, Bool.not_eq_true', decide_eq_false_iff_not, ite_true, ite_false, Bool.if_false_right, Bool.if_true_left, decide_true, decide_false, Bool.true_or, Bool.or_true, Bool.false_or, Bool.or_false, Bool.true_and, Bool.and_true, Bool.false_and, Bool.and_false, List.length_map, not_true_eq_false, not_false_eq_true, false_and, and_false, bne_self_eq_false, Bool.not_eq_false])
      refine ⟨t, b, r, rfl, t1, t2, b1, b2, ?_⟩
      refine ⟨.inr (.inl (by omega)), ?_⟩
      have key : ∀ beg : Int, beg = (if GB.last r t b - b * b' < 0 then 0 else GB.last r t b - b * b') → ∀ (D : En) (x2 x3 x4 x5 x6 x7 x8 : Option T), D.rt = dn Q → (∀ s, dn Q (.bl true) h → D.nx s h) →
          ForK (rng beg (GB.last r t b + 1 - beg).toNat) (fun _ => True) (gN 8) (sIf (tOf (eOp oGt (eFrz (eCall 2 C_step_of (aCons (eVar 0) (aCons (eVar 8) aNil)))) (eFrz (eCall 2 C_step_of (aCons (eVar 1) (aCons (eVar 8) aNil)))))) (sRet (eC (.bl false))) sNext) D [some (ptT f r t b), some (ptT f' r' t' b'), x2, x3, x4, x5, x6, x7, x8] h := by
        intro beg hb D x2 x3 x4 x5 x6 x7 x8 hD hx
        have w := GB.le_iff_window o o' hf hr (by omega) beg hb
        refine nm_loop o o' (fun hv z => hx _ (dn_self (q true ⟨fun _ => w.mpr hv, fun _ => rfl⟩))) (fun k h1 h2 h3 => ?_)
        rw [hD]
        refine dn_self (q false ⟨fun z => (by cases z), fun z => ?_⟩)
        have := w.mp z k h1 h2
        omega
      by_cases c3 : GB.last r t b - b * b' < 0
      · (try simp only [c3, iRangeW, lim, oOwn, oIsiC, view_bl, dep_bl, eqT_tt, eqT_ff, eqT_tf, eqT_ft, eDIn, eDGet, eDNew, eDc, keyT, eMakeX, eCallK, eRev, oRepr, eMeth, eProp, eFld, eMake, sRaise, sPar3, ends, startT, eVar, eC, eOp, tOf, eChain, tAndM, tOrM, tNotM, eAndV, eOrV, eNotV, eIf, aNil, aCons, eTup, eLst, eFrz, frzK, oI, oIC, oSub, oMod, oDiv, oPow, oLt, oLe, oGt, oGe, oAddI', oAddL, oMulI', oAdd, oMul, eNeg, oIsN, oNotN, oIx, atK, mNo, mPart, eSl, eCB, oLen, oInt, oSumL, oMax2, oMin2, oMax1, oMin1, oList, oBls, eCall, eBM, eBM0, isLs, oApp, oPop, oExt, lsOf, tTru, sNext, sSeq, sDrop, sRet, sRetN, sIf, sBreak, sCont, sNever, gN, gNil, gCons, gTup, setT, gSub, sAsg, sPar, sAug, oIxL, sAugS, oAddI, sFor, eLc, iSeq, iRange1, iRange2, iEnum, tYes, oIsi, kdOf, oEq, oNe, eqT_int, eqT_nn, eqT_in, eqT_ni,   atI_0, atI_1, atI_2, atI_3, atI_4, atI_5, atI_6, atI_7, atI_8, atI_m1, ixN_0, ixN_1,   kdN_int, kdN_bool, kdN_str, kdN_list, kdN_tuple, isK, view_int, view_non, dep_int, dep_non, cN, cN2, wipeT,   mk_true, mk_false, put_same, put_put,   List.map_cons, List.map_nil, List.length_cons, List.length_nil, List.replicate, List.cons_append, List.nil_append, List.append_nil, List.set_cons_zero, List.set_cons_succ, List.getElem?_cons_zero, List.getElem?_cons_succ, List.getElem?_nil, Nat.reduceAdd, Nat.reduceSub, Nat.reduceLeDiff, Nat.reduceLT, Nat.reduceEqDiff, Option.isSome_some, Option.isSome_none, true_and, and_true, if_true, if_false, Bool.false_eq_true, Bool.not_true, Bool.not_false, reduceCtorEq, Nat.zero_add, Nat.zero_le, decide_eq_true_eq, Bool.not_eq_true', decide_eq_false_iff_not, ite_true, ite_false, Bool.if_false_right, Bool.if_true_left, decide_true, decide_false, Bool.true_or, Bool.or_true, Bool.false_or, Bool.or_false, Bool.true_and, Bool.and_true, Bool.false_and, Bool.and_false, List.length_map, not_true_eq_false, not_false_eq_true, false_and, and_false, bne_self_eq_false, Bool.not_eq_false])
        exact key 0 (by rw [if_pos c3]) _ _ _ _ _ _ _ _ rfl (fun s z => z)
      · (try simp only [c3, iRangeW, lim, oOwn, oIsiC, view_bl, dep_bl, eqT_tt, eqT_ff, eqT_tf, eqT_ft, eDIn, eDGet, eDNew, eDc, keyT, eMakeX, eCallK, eRev, oRepr, eMeth, eProp, eFld, eMake, sRaise, sPar3, ends, startT, eVar, eC, eOp, tOf, eChain, tAndM, tOrM, tNotM, eAndV, eOrV, eNotV, eIf, aNil, aCons, eTup, eLst, eFrz, frzK, oI, oIC, oSub, oMod, oDiv, oPow, oLt, oLe, oGt, oGe, oAddI', oAddL, oMulI', oAdd, oMul, eNeg, oIsN, oNotN, oIx, atK, mNo, mPart, eSl, eCB, oLen, oInt, oSumL, oMax2, oMin2, oMax1, oMin1, oList, oBls, eCall, eBM, eBM0, isLs, oApp, oPop, oExt, lsOf, tTru, sNext, sSeq, sDrop, sRet, sRetN, sIf, sBreak, sCont, sNever, gN, gNil, gCons, gTup, setT, gSub, sAsg, sPar, sAug, oIxL, sAugS, oAddI, sFor, eLc, iSeq, iRange1, iRange2, iEnum, tYes, oIsi, kdOf, oEq, oNe, eqT_int, eqT_nn, eqT_in, eqT_ni,   atI_0, atI_1, atI_2, atI_3, atI_4, atI_5, atI_6, atI_7, atI_8, atI_m1, ixN_0, ixN_1,   kdN_int, kdN_bool, kdN_str, kdN_list, kdN_tuple, isK, view_int, view_non, dep_int, dep_non, cN, cN2, wipeT,   mk_true, mk_false, put_same, put_put,   List.map_cons, List.map_nil, List.length_cons, List.length_nil, List.replicate, List.cons_append, List.nil_append, List.append_nil, List.set_cons_zero, List.set_cons_succ, List.getElem?_cons_zero, List.getElem?_cons_succ, List.getElem?_nil, Nat.reduceAdd, Nat.reduceSub, Nat.reduceLeDiff, Nat.reduceLT, Nat.reduceEqDiff, Option.isSome_some, Option.isSome_none, true_and, and_true, if_true, if_false, Bool.false_eq_true, Bool.not_true, Bool.not_false, reduceCtorEq, Nat.zero_add, Nat.zero_le, decide_eq_true_eq, Bool.not_eq_true', decide_eq_false_iff_not, ite_true, ite_false, Bool.if_false_right, Bool.if_true_left, decide_true, decide_false, Bool.true_or, Bool.or_true, Bool.false_or, Bool.or_false, Bool.true_and, Bool.and_true, Bool.false_and, Bool.and_false, List.length_map, not_true_eq_false, not_false_eq_true, false_and, and_false, bne_self_eq_false, Bool.not_eq_false])
        exact key _ (by rw [if_neg c3]) _ _ _ _ _ _ _ _ rfl (fun s z => z)
theorem pl_law_due : ∀ ts h Q E, ts.length = 2 → C_law_due ts h Q E → B_law_due (ends Q E) (startT N_law_due.length ts) h := by
  rintro ts h Q E - ⟨f, r, t, b, f', r', t', b', rfl, o, o', q⟩
  unfold B_law_due
  have e1 : Int.toNat 130 = 130 := rfl
  (try simp only [e1, lim, oOwn, oIsiC, view_bl, dep_bl, eqT_tt, eqT_ff, eqT_tf, eqT_ft, eDIn, eDGet, eDNew, eDc, keyT, eMakeX, eCallK, eRev, oRepr, eMeth, eProp, eFld, eMake, sRaise, sPar3, ends, startT, eVar, eC, eOp, tOf, eChain, tAndM, tOrM, tNotM, eAndV, eOrV, eNotV, eIf, aNil, aCons, eTup, eLst, eFrz, frzK, oI, oIC, oSub, oMod, oDiv, oPow, oLt, oLe, oGt, oGe, oAddI', oAddL, oMulI', oAdd, oMul, eNeg, oIsN, oNotN, oIx, atK, mNo, mPart, eSl, eCB, oLen, oInt, oSumL, oMax2, oMin2, oMax1, oMin1, oList, oBls, eCall, eBM, eBM0, isLs, oApp, oPop, oExt, lsOf, tTru, sNext, sSeq, sDrop, sRet, sRetN, sIf, sBreak, sCont, sNever, gN, gNil, gCons, gTup, setT, gSub, sAsg, sPar, sAug, oIxL, sAugS, oAddI, sFor, eLc, iSeq, iRange1, iRange2, iEnum, tYes, oIsi, kdOf, oEq, oNe, eqT_int, eqT_nn, eqT_in, eqT_ni,   atI_0, atI_1, atI_2, atI_3, atI_4, atI_5, atI_6, atI_7, atI_8, atI_m1, ixN_0, ixN_1,   kdN_int, kdN_bool, kdN_str, kdN_list, kdN_tuple, isK, view_int, view_non, dep_int, dep_non, cN, cN2, wipeT,   mk_true, mk_false, put_same, put_put,   List.map_cons, List.map_nil, List.length_cons, List.length_nil, List.replicate, List.cons_append, List.nil_append, List.append_nil, List.set_cons_zero, List.set_cons_succ, List.getElem?_cons_zero, List.getElem?_cons_succ, List.getElem?_nil, Nat.reduceAdd, Nat.reduceSub, Nat.reduceLeDiff, Nat.reduceLT, Nat.reduceEqDiff, Option.isSome_some, Option.isSome_none, true_and, and_true, if_true, if_false, Bool.false_eq_true, Bool.not_true, Bool.not_false, reduceCtorEq, Nat.zero_add, Nat.zero_le, decide_eq_true_eq, Bool.not_eq_true', decide_eq_false_iff_not, ite_true, ite_false, Bool.if_false_right, Bool.if_true_left, decide_true, decide_false, Bool.true_or, Bool.or_true, Bool.false_or, Bool.or_false, Bool.true_and, Bool.and_true, Bool.false_and, Bool.and_false, List.length_map, not_true_eq_false, not_false_eq_true, false_and, and_false, bne_self_eq_false, Bool.not_eq_false])
  refine ⟨by decide, by decide, ?_⟩
  refine forK_go (fun i s h' => h' = h ∧ (∀ k : Int, 0 ≤ k → k < i → GB.step f r t b k ≤ GB.step f' r' t' b' k) ∧ ∃ x2, s = [some (ptT f r t b), some (ptT f' r' t' b'), x2]) ⟨rfl, fun k h1 h2 => by omega, none, rfl⟩ ?_ ?_
  · rintro s h' ⟨rfl, hv, x2, rfl⟩
    rw [rng_len] at hv
    refine ⟨trivial, ?_⟩
    (try simp only [ends, lim, oOwn, oIsiC, view_bl, dep_bl, eqT_tt, eqT_ff, eqT_tf, eqT_ft, eDIn, eDGet, eDNew, eDc, keyT, eMakeX, eCallK, eRev, oRepr, eMeth, eProp, eFld, eMake, sRaise, sPar3, ends, startT, eVar, eC, eOp, tOf, eChain, tAndM, tOrM, tNotM, eAndV, eOrV, eNotV, eIf, aNil, aCons, eTup, eLst, eFrz, frzK, oI, oIC, oSub, oMod, oDiv, oPow, oLt, oLe, oGt, oGe, oAddI', oAddL, oMulI', oAdd, oMul, eNeg, oIsN, oNotN, oIx, atK, mNo, mPart, eSl, eCB, oLen, oInt, oSumL, oMax2, oMin2, oMax1, oMin1, oList, oBls, eCall, eBM, eBM0, isLs, oApp, oPop, oExt, lsOf, tTru, sNext, sSeq, sDrop, sRet, sRetN, sIf, sBreak, sCont, sNever, gN, gNil, gCons, gTup, setT, gSub, sAsg, sPar, sAug, oIxL, sAugS, oAddI, sFor, eLc, iSeq, iRange1, iRange2, iEnum, tYes, oIsi, kdOf, oEq, oNe, eqT_int, eqT_nn, eqT_in, eqT_ni,   atI_0, atI_1, atI_2, atI_3, atI_4, atI_5, atI_6, atI_7, atI_8, atI_m1, ixN_0, ixN_1,   kdN_int, kdN_bool, kdN_str, kdN_list, kdN_tuple, isK, view_int, view_non, dep_int, dep_non, cN, cN2, wipeT,   mk_true, mk_false, put_same, put_put,   List.map_cons, List.map_nil, List.length_cons, List.length_nil, List.replicate, List.cons_append, List.nil_append, List.append_nil, List.set_cons_zero, List.set_cons_succ, List.getElem?_cons_zero, List.getElem?_cons_succ, List.getElem?_nil, Nat.reduceAdd, Nat.reduceSub, Nat.reduceLeDiff, Nat.reduceLT, Nat.reduceEqDiff, Option.isSome_some, Option.isSome_none, true_and, and_true, if_true, if_false, Bool.false_eq_true, Bool.not_true, Bool.not_false, reduceCtorEq, Nat.zero_add, Nat.zero_le, decide_eq_true_eq, Bool.not_eq_true', decide_eq_false_iff_not, ite_true, ite_false, Bool.if_false_right, Bool.if_true_left, decide_true, decide_false, Bool.true_or, Bool.or_true, Bool.false_or, Bool.or_false, Bool.true_and, Bool.and_true, Bool.false_and, Bool.and_false, List.length_map, not_true_eq_false, not_false_eq_true, false_and, and_false, bne_self_eq_false, Bool.not_eq_false])
    exact dn_self (q true ⟨fun _ => hv, fun _ => rfl⟩)
  · rintro i z s h' e ⟨rfl, hv, x2, rfl⟩
    obtain ⟨hi, rfl⟩ := rng_at e
    refine ⟨trivial, ?_⟩
    (try simp only [C_law_step, lim, oOwn, oIsiC, view_bl, dep_bl, eqT_tt, eqT_ff, eqT_tf, eqT_ft, eDIn, eDGet, eDNew, eDc, keyT, eMakeX, eCallK, eRev, oRepr, eMeth, eProp, eFld, eMake, sRaise, sPar3, ends, startT, eVar, eC, eOp, tOf, eChain, tAndM, tOrM, tNotM, eAndV, eOrV, eNotV, eIf, aNil, aCons, eTup, eLst, eFrz, frzK, oI, oIC, oSub, oMod, oDiv, oPow, oLt, oLe, oGt, oGe, oAddI', oAddL, oMulI', oAdd, oMul, eNeg, oIsN, oNotN, oIx, atK, mNo, mPart, eSl, eCB, oLen, oInt, oSumL, oMax2, oMin2, oMax1, oMin1, oList, oBls, eCall, eBM, eBM0, isLs, oApp, oPop, oExt, lsOf, tTru, sNext, sSeq, sDrop, sRet, sRetN, sIf, sBreak, sCont, sNever, gN, gNil, gCons, gTup, setT, gSub, sAsg, sPar, sAug, oIxL, sAugS, oAddI, sFor, eLc, iSeq, iRange1, iRange2, iEnum, tYes, oIsi, kdOf, oEq, oNe, eqT_int, eqT_nn, eqT_in, eqT_ni,   atI_0, atI_1, atI_2, atI_3, atI_4, atI_5, atI_6, atI_7, atI_8, atI_m1, ixN_0, ixN_1,   kdN_int, kdN_bool, kdN_str, kdN_list, kdN_tuple, isK, view_int, view_non, dep_int, dep_non, cN, cN2, wipeT,   mk_true, mk_false, put_same, put_put,   List.map_cons, List.map_nil, List.length_cons, List.length_nil, List.replicate, List.cons_append, List.nil_append, List.append_nil, List.set_cons_zero, List.set_cons_succ, List.getElem?_cons_zero, List.getElem?_cons_succ, List.getElem?_nil, Nat.reduceAdd, Nat.reduceSub, Nat.reduceLeDiff, Nat.reduceLT, Nat.reduceEqDiff, Option.isSome_some, Option.isSome_none, true_and, and_true, if_true, if_false, Bool.false_eq_true, Bool.not_true, Bool.not_false, reduceCtorEq, Nat.zero_add, Nat.zero_le, decide_eq_true_eq, Bool.not_eq_true', decide_eq_false_iff_not, ite_true, ite_false, Bool.if_false_right, Bool.if_true_left, decide_true, decide_false, Bool.true_or, Bool.or_true, Bool.false_or, Bool.or_false, Bool.true_and, Bool.and_true, Bool.false_and, Bool.and_false, List.length_map, not_true_eq_false, not_false_eq_true, false_and, and_false, bne_self_eq_false, Bool.not_eq_false])
    refine ⟨f, r, t, b, _, rfl, o, f', r', t', b', _, rfl, o', ?_⟩
    by_cases c : GB.step f r t b (0 + (i : Int)) > GB.step f' r' t' b' (0 + (i : Int))
    · (try simp only [c, lim, oOwn, oIsiC, view_bl, dep_bl, eqT_tt, eqT_ff, eqT_tf, eqT_ft, eDIn, eDGet, eDNew, eDc, keyT, eMakeX, eCallK, eRev, oRepr, eMeth, eProp, eFld, eMake, sRaise, sPar3, ends, startT, eVar, eC, eOp, tOf, eChain, tAndM, tOrM, tNotM, eAndV, eOrV, eNotV, eIf, aNil, aCons, eTup, eLst, eFrz, frzK, oI, oIC, oSub, oMod, oDiv, oPow, oLt, oLe, oGt, oGe, oAddI', oAddL, oMulI', oAdd, oMul, eNeg, oIsN, oNotN, oIx, atK, mNo, mPart, eSl, eCB, oLen, oInt, oSumL, oMax2, oMin2, oMax1, oMin1, oList, oBls, eCall, eBM, eBM0, isLs, oApp, oPop, oExt, lsOf, tTru, sNext, sSeq, sDrop, sRet, sRetN, sIf, sBreak, sCont, sNever, gN, gNil, gCons, gTup, setT, gSub, sAsg, sPar, sAug, oIxL, sAugS, oAddI, sFor, eLc, iSeq, iRange1, iRange2, iEnum, tYes, oIsi, kdOf, oEq, oNe, eqT_int, eqT_nn, eqT_in, eqT_ni,   atI_0, atI_1, atI_2, atI_3, atI_4, atI_5, atI_6, atI_7, atI_8, atI_m1, ixN_0, ixN_1,   kdN_int, kdN_bool, kdN_str, kdN_list, kdN_tuple, isK, view_int, view_non, dep_int, dep_non, cN, cN2, wipeT,   mk_true, mk_false, put_same, put_put,   List.map_cons, List.map_nil, List.length_cons, List.length_nil, List.replicate, List.cons_append, List.nil_append, List.append_nil, List.set_cons_zero, List.set_cons_succ, List.getElem?_cons_zero, List.getElem?_cons_succ, List.getElem?_nil, Nat.reduceAdd, Nat.reduceSub, Nat.reduceLeDiff, Nat.reduceLT, Nat.reduceEqDiff, Option.isSome_some, Option.isSome_none, true_and, and_true, if_true, if_false, Bool.false_eq_true, Bool.not_true, Bool.not_false, reduceCtorEq, Nat.zero_add, Nat.zero_le, decide_eq_true_eq, Bool.not_eq_true', decide_eq_false_iff_not, ite_true, ite_false, Bool.if_false_right, Bool.if_true_left, decide_true, decide_false, Bool.true_or, Bool.or_true, Bool.false_or, Bool.or_false, Bool.true_and, Bool.and_true, Bool.false_and, Bool.and_false, List.length_map, not_true_eq_false, not_false_eq_true, false_and, and_false, bne_self_eq_false, Bool.not_eq_false])
      refine dn_self (q false ⟨fun z => (by cases z), fun z => ?_⟩)
      have := z (0 + (i : Int)) (by omega) (by omega)
      omega
    · (try simp only [c, lim, oOwn, oIsiC, view_bl, dep_bl, eqT_tt, eqT_ff, eqT_tf, eqT_ft, eDIn, eDGet, eDNew, eDc, keyT, eMakeX, eCallK, eRev, oRepr, eMeth, eProp, eFld, eMake, sRaise, sPar3, ends, startT, eVar, eC, eOp, tOf, eChain, tAndM, tOrM, tNotM, eAndV, eOrV, eNotV, eIf, aNil, aCons, eTup, eLst, eFrz, frzK, oI, oIC, oSub, oMod, oDiv, oPow, oLt, oLe, oGt, oGe, oAddI', oAddL, oMulI', oAdd, oMul, eNeg, oIsN, oNotN, oIx, atK, mNo, mPart, eSl, eCB, oLen, oInt, oSumL, oMax2, oMin2, oMax1, oMin1, oList, oBls, eCall, eBM, eBM0, isLs, oApp, oPop, oExt, lsOf, tTru, sNext, sSeq, sDrop, sRet, sRetN, sIf, sBreak, sCont, sNever, gN, gNil, gCons, gTup, setT, gSub, sAsg, sPar, sAug, oIxL, sAugS, oAddI, sFor, eLc, iSeq, iRange1, iRange2, iEnum, tYes, oIsi, kdOf, oEq, oNe, eqT_int, eqT_nn, eqT_in, eqT_ni,   atI_0, atI_1, atI_2, atI_3, atI_4, atI_5, atI_6, atI_7, atI_8, atI_m1, ixN_0, ixN_1,   kdN_int, kdN_bool, kdN_str, kdN_list, kdN_tuple, isK, view_int, view_non, dep_int, dep_non, cN, cN2, wipeT,   mk_true, mk_false, put_same, put_put,   List.map_cons, List.map_nil, List.length_cons, List.length_nil, List.replicate, List.cons_append, List.nil_append, List.append_nil, List.set_cons_zero, List.set_cons_succ, List.getElem?_cons_zero, List.getElem?_cons_succ, List.getElem?_nil, Nat.reduceAdd, Nat.reduceSub, Nat.reduceLeDiff, Nat.reduceLT, Nat.reduceEqDiff, Option.isSome_some, Option.isSome_none, true_and, and_true, if_true, if_false, Bool.false_eq_true, Bool.not_true, Bool.not_false, reduceCtorEq, Nat.zero_add, Nat.zero_le, decide_eq_true_eq, Bool.not_eq_true', decide_eq_false_iff_not, ite_true, ite_false, Bool.if_false_right, Bool.if_true_left, decide_true, decide_false, Bool.true_or, Bool.or_true, Bool.false_or, Bool.or_false, Bool.true_and, Bool.and_true, Bool.false_and, Bool.and_false, List.length_map, not_true_eq_false, not_false_eq_true, false_and, and_false, bne_self_eq_false, Bool.not_eq_false])
      refine ⟨fun k h1 h2 => ?_, _, rfl⟩
      by_cases ck : k < (i : Int)
      · exact hv k h1 ck
      · have : k = 0 + (i : Int) := by omega
        rw [this]; omega
end
section
variable {K : PySem.W.Frag} {mg : Str → Option Value} {a : Ad}
theorem pl_Book___le__ (Z : Tx K mg a) : ∀ ts h Q E, ts.length = 2 → C_Book___le__ a ts h Q E → B_Book___le__ K a (ends Q E) (startT N_Book___le__.length ts) h := by
  rintro ts h Q E - ⟨x, y, f, r, t, b, f', r', t', b', rfl, hx, hy, o, o', q⟩
  unfold B_Book___le__
  have hx' := hx; have hy' := hy
  unfold Bk at hx hy
  (try simp only [oIsiC, lim, oOwn, oIsiC, view_bl, dep_bl, eqT_tt, eqT_ff, eqT_tf, eqT_ft, eDIn, eDGet, eDNew, eDc, keyT, eMakeX, eCallK, eRev, oRepr, eMeth, eProp, eFld, eMake, sRaise, sPar3, ends, startT, eVar, eC, eOp, tOf, eChain, tAndM, tOrM, tNotM, eAndV, eOrV, eNotV, eIf, aNil, aCons, eTup, eLst, eFrz, frzK, oI, oIC, oSub, oMod, oDiv, oPow, oLt, oLe, oGt, oGe, oAddI', oAddL, oMulI', oAdd, oMul, eNeg, oIsN, oNotN, oIx, atK, mNo, mPart, eSl, eCB, oLen, oInt, oSumL, oMax2, oMin2, oMax1, oMin1, oList, oBls, eCall, eBM, eBM0, isLs, oApp, oPop, oExt, lsOf, tTru, sNext, sSeq, sDrop, sRet, sRetN, sIf, sBreak, sCont, sNever, gN, gNil, gCons, gTup, setT, gSub, sAsg, sPar, sAug, oIxL, sAugS, oAddI, sFor, eLc, iSeq, iRange1, iRange2, iEnum, tYes, oIsi, kdOf, oEq, oNe, eqT_int, eqT_nn, eqT_in, eqT_ni,   atI_0, atI_1, atI_2, atI_3, atI_4, atI_5, atI_6, atI_7, atI_8, atI_m1, ixN_0, ixN_1,   kdN_int, kdN_bool, kdN_str, kdN_list, kdN_tuple, isK, view_int, view_non, dep_int, dep_non, cN, cN2, wipeT,   mk_true, mk_false, put_same, put_put,   List.map_cons, List.map_nil, List.length_cons, List.length_nil, List.replicate, List.cons_append, List.nil_append, List.append_nil, List.set_cons_zero, List.set_cons_succ, List.getElem?_cons_zero, List.getElem?_cons_succ, List.getElem?_nil, Nat.reduceAdd, Nat.reduceSub, Nat.reduceLeDiff, Nat.reduceLT, Nat.reduceEqDiff, Option.isSome_some, Option.isSome_none, true_and, and_true, if_true, if_false, Bool.false_eq_true, Bool.not_true, Bool.not_false, reduceCtorEq, Nat.zero_add, Nat.zero_le, decide_eq_true_eq, Bool.not_eq_true', decide_eq_false_iff_not, ite_true, ite_false, Bool.if_false_right, Bool.if_true_left, decide_true, decide_false, Bool.true_or, Bool.or_true, Bool.false_or, Bool.or_false, Bool.true_and, Bool.and_true, Bool.false_and, Bool.and_false, List.length_map, not_true_eq_false, not_false_eq_true, false_and, and_false, bne_self_eq_false, Bool.not_eq_false])
  refine .inr ⟨_, _, _, hy, Z.ty_Book, Z.ki_Book_Book, ?_⟩
  (try simp only [hx, hy, lk_first, lk_roof, lim, oOwn, oIsiC, view_bl, dep_bl, eqT_tt, eqT_ff, eqT_tf, eqT_ft, eDIn, eDGet, eDNew, eDc, keyT, eMakeX, eCallK, eRev, oRepr, eMeth, eProp, eFld, eMake, sRaise, sPar3, ends, startT, eVar, eC, eOp, tOf, eChain, tAndM, tOrM, tNotM, eAndV, eOrV, eNotV, eIf, aNil, aCons, eTup, eLst, eFrz, frzK, oI, oIC, oSub, oMod, oDiv, oPow, oLt, oLe, oGt, oGe, oAddI', oAddL, oMulI', oAdd, oMul, eNeg, oIsN, oNotN, oIx, atK, mNo, mPart, eSl, eCB, oLen, oInt, oSumL, oMax2, oMin2, oMax1, oMin1, oList, oBls, eCall, eBM, eBM0, isLs, oApp, oPop, oExt, lsOf, tTru, sNext, sSeq, sDrop, sRet, sRetN, sIf, sBreak, sCont, sNever, gN, gNil, gCons, gTup, setT, gSub, sAsg, sPar, sAug, oIxL, sAugS, oAddI, sFor, eLc, iSeq, iRange1, iRange2, iEnum, tYes, oIsi, kdOf, oEq, oNe, eqT_int, eqT_nn, eqT_in, eqT_ni,   atI_0, atI_1, atI_2, atI_3, atI_4, atI_5, atI_6, atI_7, atI_8, atI_m1, ixN_0, ixN_1,   kdN_int, kdN_bool, kdN_str, kdN_list, kdN_tuple, isK, view_int, view_non, dep_int, dep_non, cN, cN2, wipeT,   mk_true, mk_false, put_same, put_put,   List.map_cons, List.map_nil, List.length_cons, List.length_nil, List.replicate, List.cons_append, List.nil_append, List.append_nil, List.set_cons_zero, List.set_cons_succ, List.getElem?_cons_zero, List.getElem?_cons_succ, List.getElem?_nil, Nat.reduceAdd, Nat.reduceSub, Nat.reduceLeDiff, Nat.reduceLT, Nat.reduceEqDiff, Option.isSome_some, Option.isSome_none, true_and, and_true, if_true, if_false, Bool.false_eq_true, Bool.not_true, Bool.not_false, reduceCtorEq, Nat.zero_add, Nat.zero_le, decide_eq_true_eq, Bool.not_eq_true', decide_eq_false_iff_not, ite_true, ite_false, Bool.if_false_right, Bool.if_true_left, decide_true, decide_false, Bool.true_or, Bool.or_true, Bool.false_or, Bool.or_false, Bool.true_and, Bool.and_true, Bool.false_and, Bool.and_false, List.length_map, not_true_eq_false, not_false_eq_true, false_and, and_false, bne_self_eq_false, Bool.not_eq_false])
  by_cases c1 : f > f'
  · (try simp only [c1, lim, oOwn, oIsiC, view_bl, dep_bl, eqT_tt, eqT_ff, eqT_tf, eqT_ft, eDIn, eDGet, eDNew, eDc, keyT, eMakeX, eCallK, eRev, oRepr, eMeth, eProp, eFld, eMake, sRaise, sPar3, ends, startT, eVar, eC, eOp, tOf, eChain, tAndM, tOrM, tNotM, eAndV, eOrV, eNotV, eIf, aNil, aCons, eTup, eLst, eFrz, frzK, oI, oIC, oSub, oMod, oDiv, oPow, oLt, oLe, oGt, oGe, oAddI', oAddL, oMulI', oAdd, oMul, eNeg, oIsN, oNotN, oIx, atK, mNo, mPart, eSl, eCB, oLen, oInt, oSumL, oMax2, oMin2, oMax1, oMin1, oList, oBls, eCall, eBM, eBM0, isLs, oApp, oPop, oExt, lsOf, tTru, sNext, sSeq, sDrop, sRet, sRetN, sIf, sBreak, sCont, sNever, gN, gNil, gCons, gTup, setT, gSub, sAsg, sPar, sAug, oIxL, sAugS, oAddI, sFor, eLc, iSeq, iRange1, iRange2, iEnum, tYes, oIsi, kdOf, oEq, oNe, eqT_int, eqT_nn, eqT_in, eqT_ni,   atI_0, atI_1, atI_2, atI_3, atI_4, atI_5, atI_6, atI_7, atI_8, atI_m1, ixN_0, ixN_1,   kdN_int, kdN_bool, kdN_str, kdN_list, kdN_tuple, isK, view_int, view_non, dep_int, dep_non, cN, cN2, wipeT,   mk_true, mk_false, put_same, put_put,   List.map_cons, List.map_nil, List.length_cons, List.length_nil, List.replicate, List.cons_append, List.nil_append, List.append_nil, List.set_cons_zero, List.set_cons_succ, List.getElem?_cons_zero, List.getElem?_cons_succ, List.getElem?_nil, Nat.reduceAdd, Nat.reduceSub, Nat.reduceLeDiff, Nat.reduceLT, Nat.reduceEqDiff, Option.isSome_some, Option.isSome_none, true_and, and_true, if_true, if_false, Bool.false_eq_true, Bool.not_true, Bool.not_false, reduceCtorEq, Nat.zero_add, Nat.zero_le, decide_eq_true_eq, Bool.not_eq_true', decide_eq_false_iff_not, ite_true, ite_false, Bool.if_false_right, Bool.if_true_left, decide_true, decide_false, Bool.true_or, Bool.or_true, Bool.false_or, Bool.or_false, Bool.true_and, Bool.and_true, Bool.false_and, Bool.and_false, List.length_map, not_true_eq_false, not_false_eq_true, false_and, and_false, bne_self_eq_false, Bool.not_eq_false])
    exact dn_self (q false ⟨fun z => (by cases z), fun z => by have := GB.le_f o o' z; omega⟩)
  · by_cases c2 : r > r'
    · (try simp only [c1, c2, lim, oOwn, oIsiC, view_bl, dep_bl, eqT_tt, eqT_ff, eqT_tf, eqT_ft, eDIn, eDGet, eDNew, eDc, keyT, eMakeX, eCallK, eRev, oRepr, eMeth, eProp, eFld, eMake, sRaise, sPar3, ends, startT, eVar, eC, eOp, tOf, eChain, tAndM, tOrM, tNotM, eAndV, eOrV, eNotV, eIf, aNil, aCons, eTup, eLst, eFrz, frzK, oI, oIC, oSub, oMod, oDiv, oPow, oLt, oLe, oGt, oGe, oAddI', oAddL, oMulI', oAdd, oMul, eNeg, oIsN, oNotN, oIx, atK, mNo, mPart, eSl, eCB, oLen, oInt, oSumL, oMax2, oMin2, oMax1, oMin1, oList, oBls, eCall, eBM, eBM0, isLs, oApp, oPop, oExt, lsOf, tTru, sNext, sSeq, sDrop, sRet, sRetN, sIf, sBreak, sCont, sNever, gN, gNil, gCons, gTup, setT, gSub, sAsg, sPar, sAug, oIxL, sAugS, oAddI, sFor, eLc, iSeq, iRange1, iRange2, iEnum, tYes, oIsi, kdOf, oEq, oNe, eqT_int, eqT_nn, eqT_in, eqT_ni,   atI_0, atI_1, atI_2, atI_3, atI_4, atI_5, atI_6, atI_7, atI_8, atI_m1, ixN_0, ixN_1,   kdN_int, kdN_bool, kdN_str, kdN_list, kdN_tuple, isK, view_int, view_non, dep_int, dep_non, cN, cN2, wipeT,   mk_true, mk_false, put_same, put_put,   List.map_cons, List.map_nil, List.length_cons, List.length_nil, List.replicate, List.cons_append, List.nil_append, List.append_nil, List.set_cons_zero, List.set_cons_succ, List.getElem?_cons_zero, List.getElem?_cons_succ, List.getElem?_nil, Nat.reduceAdd, Nat.reduceSub, Nat.reduceLeDiff, Nat.reduceLT, Nat.reduceEqDiff, Option.isSome_some, Option.isSome_none, true_and, and_true, if_true, if_false, Bool.false_eq_true, Bool.not_true, Bool.not_false, reduceCtorEq, Nat.zero_add, Nat.zero_le, decide_eq_true_eq, Bool.not_eq_true', decide_eq_false_iff_not, ite_true, ite_false, Bool.if_false_right, Bool.if_true_left, decide_true, decide_false, Bool.true_or, Bool.or_true, Bool.false_or, Bool.or_false, Bool.true_and, Bool.and_true, Bool.false_and, Bool.and_false, List.length_map, not_true_eq_false, not_false_eq_true, false_and, and_false, bne_self_eq_false, Bool.not_eq_false])
      exact dn_self (q false ⟨fun z => (by cases z), fun z => by have := GB.le_r o o' z; omega⟩)
    · (try simp only [c1, c2, hx, hy, lk_parts, C_Book_parts, lim, oOwn, oIsiC, view_bl, dep_bl, eqT_tt, eqT_ff, eqT_tf, eqT_ft, eDIn, eDGet, eDNew, eDc, keyT, eMakeX, eCallK, eRev, oRepr, eMeth, eProp, eFld, eMake, sRaise, sPar3, ends, startT, eVar, eC, eOp, tOf, eChain, tAndM, tOrM, tNotM, eAndV, eOrV, eNotV, eIf, aNil, aCons, eTup, eLst, eFrz, frzK, oI, oIC, oSub, oMod, oDiv, oPow, oLt, oLe, oGt, oGe, oAddI', oAddL, oMulI', oAdd, oMul, eNeg, oIsN, oNotN, oIx, atK, mNo, mPart, eSl, eCB, oLen, oInt, oSumL, oMax2, oMin2, oMax1, oMin1, oList, oBls, eCall, eBM, eBM0, isLs, oApp, oPop, oExt, lsOf, tTru, sNext, sSeq, sDrop, sRet, sRetN, sIf, sBreak, sCont, sNever, gN, gNil, gCons, gTup, setT, gSub, sAsg, sPar, sAug, oIxL, sAugS, oAddI, sFor, eLc, iSeq, iRange1, iRange2, iEnum, tYes, oIsi, kdOf, oEq, oNe, eqT_int, eqT_nn, eqT_in, eqT_ni,   atI_0, atI_1, atI_2, atI_3, atI_4, atI_5, atI_6, atI_7, atI_8, atI_m1, ixN_0, ixN_1,   kdN_int, kdN_bool, kdN_str, kdN_list, kdN_tuple, isK, view_int, view_non, dep_int, dep_non, cN, cN2, wipeT,   mk_true, mk_false, put_same, put_put,   List.map_cons, List.map_nil, List.length_cons, List.length_nil, List.replicate, List.cons_append, List.nil_append, List.append_nil, List.set_cons_zero, List.set_cons_succ, List.getElem?_cons_zero, List.getElem?_cons_succ, List.getElem?_nil, Nat.reduceAdd, Nat.reduceSub, Nat.reduceLeDiff, Nat.reduceLT, Nat.reduceEqDiff, Option.isSome_some, Option.isSome_none, true_and, and_true, if_true, if_false, Bool.false_eq_true, Bool.not_true, Bool.not_false, reduceCtorEq, Nat.zero_add, Nat.zero_le, decide_eq_true_eq, Bool.not_eq_true', decide_eq_false_iff_not, ite_true, ite_false, Bool.if_false_right, Bool.if_true_left, decide_true, decide_false, Bool.true_or, Bool.or_true, Bool.false_or, Bool.or_false, Bool.true_and, Bool.and_true, Bool.false_and, Bool.and_false, List.length_map, not_true_eq_false, not_false_eq_true, false_and, and_false, bne_self_eq_false, Bool.not_eq_false])
      refine ⟨x, f, r, t, b, rfl, hx', ?_⟩
      (try simp only [hx, hy, lk_parts, C_Book_parts, lim, oOwn, oIsiC, view_bl, dep_bl, eqT_tt, eqT_ff, eqT_tf, eqT_ft, eDIn, eDGet, eDNew, eDc, keyT, eMakeX, eCallK, eRev, oRepr, eMeth, eProp, eFld, eMake, sRaise, sPar3, ends, startT, eVar, eC, eOp, tOf, eChain, tAndM, tOrM, tNotM, eAndV, eOrV, eNotV, eIf, aNil, aCons, eTup, eLst, eFrz, frzK, oI, oIC, oSub, oMod, oDiv, oPow, oLt, oLe, oGt, oGe, oAddI', oAddL, oMulI', oAdd, oMul, eNeg, oIsN, oNotN, oIx, atK, mNo, mPart, eSl, eCB, oLen, oInt, oSumL, oMax2, oMin2, oMax1, oMin1, oList, oBls, eCall, eBM, eBM0, isLs, oApp, oPop, oExt, lsOf, tTru, sNext, sSeq, sDrop, sRet, sRetN, sIf, sBreak, sCont, sNever, gN, gNil, gCons, gTup, setT, gSub, sAsg, sPar, sAug, oIxL, sAugS, oAddI, sFor, eLc, iSeq, iRange1, iRange2, iEnum, tYes, oIsi, kdOf, oEq, oNe, eqT_int, eqT_nn, eqT_in, eqT_ni,   atI_0, atI_1, atI_2, atI_3, atI_4, atI_5, atI_6, atI_7, atI_8, atI_m1, ixN_0, ixN_1,   kdN_int, kdN_bool, kdN_str, kdN_list, kdN_tuple, isK, view_int, view_non, dep_int, dep_non, cN, cN2, wipeT,   mk_true, mk_false, put_same, put_put,   List.map_cons, List.map_nil, List.length_cons, List.length_nil, List.replicate, List.cons_append, List.nil_append, List.append_nil, List.set_cons_zero, List.set_cons_succ, List.getElem?_cons_zero, List.getElem?_cons_succ, List.getElem?_nil, Nat.reduceAdd, Nat.reduceSub, Nat.reduceLeDiff, Nat.reduceLT, Nat.reduceEqDiff, Option.isSome_some, Option.isSome_none, true_and, and_true, if_true, if_false, Bool.false_eq_true, Bool.not_true, Bool.not_false, reduceCtorEq, Nat.zero_add, Nat.zero_le, decide_eq_true_eq, Bool.not_eq_true', decide_eq_false_iff_not, ite_true, ite_false, Bool.if_false_right, Bool.if_true_left, decide_true, decide_false, Bool.true_or, Bool.or_true, Bool.false_or, Bool.or_false, Bool.true_and, Bool.and_true, Bool.false_and, Bool.and_false, List.length_map, not_true_eq_false, not_false_eq_true, false_and, and_false, bne_self_eq_false, Bool.not_eq_false])
      refine ⟨y, f', r', t', b', rfl, hy', ?_⟩
      (try simp only [C_is_never_more, lim, oOwn, oIsiC, view_bl, dep_bl, eqT_tt, eqT_ff, eqT_tf, eqT_ft, eDIn, eDGet, eDNew, eDc, keyT, eMakeX, eCallK, eRev, oRepr, eMeth, eProp, eFld, eMake, sRaise, sPar3, ends, startT, eVar, eC, eOp, tOf, eChain, tAndM, tOrM, tNotM, eAndV, eOrV, eNotV, eIf, aNil, aCons, eTup, eLst, eFrz, frzK, oI, oIC, oSub, oMod, oDiv, oPow, oLt, oLe, oGt, oGe, oAddI', oAddL, oMulI', oAdd, oMul, eNeg, oIsN, oNotN, oIx, atK, mNo, mPart, eSl, eCB, oLen, oInt, oSumL, oMax2, oMin2, oMax1, oMin1, oList, oBls, eCall, eBM, eBM0, isLs, oApp, oPop, oExt, lsOf, tTru, sNext, sSeq, sDrop, sRet, sRetN, sIf, sBreak, sCont, sNever, gN, gNil, gCons, gTup, setT, gSub, sAsg, sPar, sAug, oIxL, sAugS, oAddI, sFor, eLc, iSeq, iRange1, iRange2, iEnum, tYes, oIsi, kdOf, oEq, oNe, eqT_int, eqT_nn, eqT_in, eqT_ni,   atI_0, atI_1, atI_2, atI_3, atI_4, atI_5, atI_6, atI_7, atI_8, atI_m1, ixN_0, ixN_1,   kdN_int, kdN_bool, kdN_str, kdN_list, kdN_tuple, isK, view_int, view_non, dep_int, dep_non, cN, cN2, wipeT,   mk_true, mk_false, put_same, put_put,   List.map_cons, List.map_nil, List.length_cons, List.length_nil, List.replicate, List.cons_append, List.nil_append, List.append_nil, List.set_cons_zero, List.set_cons_succ, List.getElem?_cons_zero, List.getElem?_cons_succ, List.getElem?_nil, Nat.reduceAdd, Nat.reduceSub, Nat.reduceLeDiff, Nat.reduceLT, Nat.reduceEqDiff, Option.isSome_some, Option.isSome_none, true_and, and_true, if_true, if_false, Bool.false_eq_true, Bool.not_true, Bool.not_false, reduceCtorEq, Nat.zero_add, Nat.zero_le, decide_eq_true_eq, Bool.not_eq_true', decide_eq_false_iff_not, ite_true, ite_false, Bool.if_false_right, Bool.if_true_left, decide_true, decide_false, Bool.true_or, Bool.or_true, Bool.false_or, Bool.or_false, Bool.true_and, Bool.and_true, Bool.false_and, Bool.and_false, List.length_map, not_true_eq_false, not_false_eq_true, false_and, and_false, bne_self_eq_false, Bool.not_eq_false])
      exact ⟨f, r, t, b, f', r', t', b', rfl, o, o', by omega, by omega, fun v hv => dn_self (q v hv)⟩
end
end TL

namespace TL
open PySem L2

/-- every item is one of those that P tells, or none -/
theorem lcK_anyF {fl : Bool} {ts : List T} {stay : Hq → Prop} {g : T → Sl → Option Sl} {tt : TM} {el : EM} {s : Sl} {h : Hq} {Q : TK} (P : T → Prop) (hst : stay h) (hl : ts.length ≤ 1000000)
    (hs : ∀ t ∈ ts, ∀ R : Option T → Hq → Prop, R none h → (∀ y, P y → R (some y) h) → match g t s with
      | some s2 => tt s2 h (fun b h3 => if b = true then el s2 h3 (fun y h4 => R (some y) h4) E0 else R none h3) E0
      | none => False) (hQ : ∀ ys : List T, ys.length ≤ ts.length → (∀ y ∈ ys, P y) → mk fl ys h Q) : LcK fl ts stay g tt el s h Q := by
  refine ⟨fun i acc h' => acc.length ≤ i ∧ (∀ y ∈ acc, P y) ∧ h' = h, ⟨Nat.le_refl _, (fun _ z => nomatch z), rfl⟩, ?_⟩
  rintro i acc h' hi ⟨ha, hp, rfl⟩
  refine ⟨hst, ?_⟩
  cases e : ts[i]? with
  | none =>
    have := List.getElem?_eq_none_iff.mp e
    exact hQ acc (by omega) hp
  | some t =>
    have hi' : i < ts.length := (List.getElem?_eq_some_iff.mp e).1
    refine ⟨show acc.length < 1000000 by omega, ?_⟩
    have q := hs t (List.mem_of_getElem? e) (fun y h4 => match y with
      | some y => (acc ++ [y]).length ≤ i + 1 ∧ (∀ z ∈ acc ++ [y], P z) ∧ h4 = h'
      | none => acc.length ≤ i + 1 ∧ (∀ z ∈ acc, P z) ∧ h4 = h') ⟨by omega, hp, rfl⟩ (fun y hy => ⟨by simp; omega, fun z hz => by
      rcases List.mem_append.mp hz with w | w
      · exact hp z w
      · have : z = y := by simpa using w
        rw [this]; exact hy, rfl⟩)
    cases es : g t s with
    | none => rw [es] at q; exact q.elim
    | some s2 => rw [es] at q; exact q
section
variable {K : PySem.W.Frag} {mg : Str → Option Value} {a : Ad}
theorem pl_law_wide_right (Z : Tx K mg a) : ∀ ts h Q E, ts.length = 2 → C_law_wide_right ts h Q E → B_law_wide_right K a (ends Q E) (startT N_law_wide_right.length ts) h := by
  rintro ts h Q E - ⟨f, r, t, b, f', r', t', b', rfl, o, o', q⟩
  unfold B_law_wide_right
  obtain ⟨f1, fr, r1, t1, t2, b1, b2⟩ := id o
  obtain ⟨f1', fr', r1', t1', t2', b1', b2'⟩ := id o'
  refine seq_gen fun N kN => ?_
  (try simp only [ptT, shT, lim, oOwn, oIsiC, view_bl, dep_bl, eqT_tt, eqT_ff, eqT_tf, eqT_ft, eDIn, eDGet, eDNew, eDc, keyT, eMakeX, eCallK, eRev, oRepr, eMeth, eProp, eFld, eMake, sRaise, sPar3, ends, startT, eVar, eC, eOp, tOf, eChain, tAndM, tOrM, tNotM, eAndV, eOrV, eNotV, eIf, aNil, aCons, eTup, eLst, eFrz, frzK, oI, oIC, oSub, oMod, oDiv, oPow, oLt, oLe, oGt, oGe, oAddI', oAddL, oMulI', oAdd, oMul, eNeg, oIsN, oNotN, oIx, atK, mNo, mPart, eSl, eCB, oLen, oInt, oSumL, oMax2, oMin2, oMax1, oMin1, oList, oBls, eCall, eBM, eBM0, isLs, oApp, oPop, oExt, lsOf, tTru, sNext, sSeq, sDrop, sRet, sRetN, sIf, sBreak, sCont, sNever, gN, gNil, gCons, gTup, setT, gSub, sAsg, sPar, sAug, oIxL, sAugS, oAddI, sFor, eLc, iSeq, iRange1, iRange2, iEnum, tYes, oIsi, kdOf, oEq, oNe, eqT_int, eqT_nn, eqT_in, eqT_ni,   atI_0, atI_1, atI_2, atI_3, atI_4, atI_5, atI_6, atI_7, atI_8, atI_m1, ixN_0, ixN_1,   kdN_int, kdN_bool, kdN_str, kdN_list, kdN_tuple, isK, view_int, view_non, dep_int, dep_non, cN, cN2, wipeT,   mk_true, mk_false, put_same, put_put,   List.map_cons, List.map_nil, List.length_cons, List.length_nil, List.replicate, List.cons_append, List.nil_append, List.append_nil, List.set_cons_zero, List.set_cons_succ, List.getElem?_cons_zero, List.getElem?_cons_succ, List.getElem?_nil, Nat.reduceAdd, Nat.reduceSub, Nat.reduceLeDiff, Nat.reduceLT, Nat.reduceEqDiff, Option.isSome_some, Option.isSome_none, true_and, and_true, if_true, if_false, Bool.false_eq_true, Bool.not_true, Bool.not_false, reduceCtorEq, Nat.zero_add, Nat.zero_le, decide_eq_true_eq, Bool.not_eq_true', decide_eq_false_iff_not, ite_true, ite_false, Bool.if_false_right, Bool.if_true_left, decide_true, decide_false, Bool.true_or, Bool.or_true, Bool.false_or, Bool.or_false, Bool.true_and, Bool.and_true, Bool.false_and, Bool.and_false, List.length_map, not_true_eq_false, not_false_eq_true, false_and, and_false, bne_self_eq_false, Bool.not_eq_false])
  refine ⟨.inr (.inl (by omega)), ⟨by omega, by omega⟩, kN _ _ ?_⟩
  clear kN N
  have e1 : Int.toNat 10000 = 10000 := rfl
  generalize (r - 1) * b / t + 1 = L
  refine seq_gen fun N kN => ?_
  (try simp only [e1, lim, oOwn, oIsiC, view_bl, dep_bl, eqT_tt, eqT_ff, eqT_tf, eqT_ft, eDIn, eDGet, eDNew, eDc, keyT, eMakeX, eCallK, eRev, oRepr, eMeth, eProp, eFld, eMake, sRaise, sPar3, ends, startT, eVar, eC, eOp, tOf, eChain, tAndM, tOrM, tNotM, eAndV, eOrV, eNotV, eIf, aNil, aCons, eTup, eLst, eFrz, frzK, oI, oIC, oSub, oMod, oDiv, oPow, oLt, oLe, oGt, oGe, oAddI', oAddL, oMulI', oAdd, oMul, eNeg, oIsN, oNotN, oIx, atK, mNo, mPart, eSl, eCB, oLen, oInt, oSumL, oMax2, oMin2, oMax1, oMin1, oList, oBls, eCall, eBM, eBM0, isLs, oApp, oPop, oExt, lsOf, tTru, sNext, sSeq, sDrop, sRet, sRetN, sIf, sBreak, sCont, sNever, gN, gNil, gCons, gTup, setT, gSub, sAsg, sPar, sAug, oIxL, sAugS, oAddI, sFor, eLc, iSeq, iRange1, iRange2, iEnum, tYes, oIsi, kdOf, oEq, oNe, eqT_int, eqT_nn, eqT_in, eqT_ni,   atI_0, atI_1, atI_2, atI_3, atI_4, atI_5, atI_6, atI_7, atI_8, atI_m1, ixN_0, ixN_1,   kdN_int, kdN_bool, kdN_str, kdN_list, kdN_tuple, isK, view_int, view_non, dep_int, dep_non, cN, cN2, wipeT,   mk_true, mk_false, put_same, put_put,   List.map_cons, List.map_nil, List.length_cons, List.length_nil, List.replicate, List.cons_append, List.nil_append, List.append_nil, List.set_cons_zero, List.set_cons_succ, List.getElem?_cons_zero, List.getElem?_cons_succ, List.getElem?_nil, Nat.reduceAdd, Nat.reduceSub, Nat.reduceLeDiff, Nat.reduceLT, Nat.reduceEqDiff, Option.isSome_some, Option.isSome_none, true_and, and_true, if_true, if_false, Bool.false_eq_true, Bool.not_true, Bool.not_false, reduceCtorEq, Nat.zero_add, Nat.zero_le, decide_eq_true_eq, Bool.not_eq_true', decide_eq_false_iff_not, ite_true, ite_false, Bool.if_false_right, Bool.if_true_left, decide_true, decide_false, Bool.true_or, Bool.or_true, Bool.false_or, Bool.or_false, Bool.true_and, Bool.and_true, Bool.false_and, Bool.and_false, List.length_map, not_true_eq_false, not_false_eq_true, false_and, and_false, bne_self_eq_false, Bool.not_eq_false])
  refine ⟨by decide, by decide, lcK_anyF (fun y => ∃ k : Int, y = .int k ∧ 0 ≤ k) trivial (by rw [rng_len]; omega) (fun z hz R hn hR => ?_) (fun ys hl hys => ?_)⟩
  · obtain ⟨i, hi⟩ := List.mem_iff_getElem?.mp hz
    obtain ⟨hi', rfl⟩ := rng_at hi
    (try simp only [cN, lim, oOwn, oIsiC, view_bl, dep_bl, eqT_tt, eqT_ff, eqT_tf, eqT_ft, eDIn, eDGet, eDNew, eDc, keyT, eMakeX, eCallK, eRev, oRepr, eMeth, eProp, eFld, eMake, sRaise, sPar3, ends, startT, eVar, eC, eOp, tOf, eChain, tAndM, tOrM, tNotM, eAndV, eOrV, eNotV, eIf, aNil, aCons, eTup, eLst, eFrz, frzK, oI, oIC, oSub, oMod, oDiv, oPow, oLt, oLe, oGt, oGe, oAddI', oAddL, oMulI', oAdd, oMul, eNeg, oIsN, oNotN, oIx, atK, mNo, mPart, eSl, eCB, oLen, oInt, oSumL, oMax2, oMin2, oMax1, oMin1, oList, oBls, eCall, eBM, eBM0, isLs, oApp, oPop, oExt, lsOf, tTru, sNext, sSeq, sDrop, sRet, sRetN, sIf, sBreak, sCont, sNever, gN, gNil, gCons, gTup, setT, gSub, sAsg, sPar, sAug, oIxL, sAugS, oAddI, sFor, eLc, iSeq, iRange1, iRange2, iEnum, tYes, oIsi, kdOf, oEq, oNe, eqT_int, eqT_nn, eqT_in, eqT_ni,   atI_0, atI_1, atI_2, atI_3, atI_4, atI_5, atI_6, atI_7, atI_8, atI_m1, ixN_0, ixN_1,   kdN_int, kdN_bool, kdN_str, kdN_list, kdN_tuple, isK, view_int, view_non, dep_int, dep_non, cN, cN2, wipeT,   mk_true, mk_false, put_same, put_put,   List.map_cons, List.map_nil, List.length_cons, List.length_nil, List.replicate, List.cons_append, List.nil_append, List.append_nil, List.set_cons_zero, List.set_cons_succ, List.getElem?_cons_zero, List.getElem?_cons_succ, List.getElem?_nil, Nat.reduceAdd, Nat.reduceSub, Nat.reduceLeDiff, Nat.reduceLT, Nat.reduceEqDiff, Option.isSome_some, Option.isSome_none, true_and, and_true, if_true, if_false, Bool.false_eq_true, Bool.not_true, Bool.not_false, reduceCtorEq, Nat.zero_add, Nat.zero_le, decide_eq_true_eq, Bool.not_eq_true', decide_eq_false_iff_not, ite_true, ite_false, Bool.if_false_right, Bool.if_true_left, decide_true, decide_false, Bool.true_or, Bool.or_true, Bool.false_or, Bool.or_false, Bool.true_and, Bool.and_true, Bool.false_and, Bool.and_false, List.length_map, not_true_eq_false, not_false_eq_true, false_and, and_false, bne_self_eq_false, Bool.not_eq_false])
    by_cases c1 : 0 ≤ L - (0 + (i : Int))
    · (try simp only [c1, lim, oOwn, oIsiC, view_bl, dep_bl, eqT_tt, eqT_ff, eqT_tf, eqT_ft, eDIn, eDGet, eDNew, eDc, keyT, eMakeX, eCallK, eRev, oRepr, eMeth, eProp, eFld, eMake, sRaise, sPar3, ends, startT, eVar, eC, eOp, tOf, eChain, tAndM, tOrM, tNotM, eAndV, eOrV, eNotV, eIf, aNil, aCons, eTup, eLst, eFrz, frzK, oI, oIC, oSub, oMod, oDiv, oPow, oLt, oLe, oGt, oGe, oAddI', oAddL, oMulI', oAdd, oMul, eNeg, oIsN, oNotN, oIx, atK, mNo, mPart, eSl, eCB, oLen, oInt, oSumL, oMax2, oMin2, oMax1, oMin1, oList, oBls, eCall, eBM, eBM0, isLs, oApp, oPop, oExt, lsOf, tTru, sNext, sSeq, sDrop, sRet, sRetN, sIf, sBreak, sCont, sNever, gN, gNil, gCons, gTup, setT, gSub, sAsg, sPar, sAug, oIxL, sAugS, oAddI, sFor, eLc, iSeq, iRange1, iRange2, iEnum, tYes, oIsi, kdOf, oEq, oNe, eqT_int, eqT_nn, eqT_in, eqT_ni,   atI_0, atI_1, atI_2, atI_3, atI_4, atI_5, atI_6, atI_7, atI_8, atI_m1, ixN_0, ixN_1,   kdN_int, kdN_bool, kdN_str, kdN_list, kdN_tuple, isK, view_int, view_non, dep_int, dep_non, cN, cN2, wipeT,   mk_true, mk_false, put_same, put_put,   List.map_cons, List.map_nil, List.length_cons, List.length_nil, List.replicate, List.cons_append, List.nil_append, List.append_nil, List.set_cons_zero, List.set_cons_succ, List.getElem?_cons_zero, List.getElem?_cons_succ, List.getElem?_nil, Nat.reduceAdd, Nat.reduceSub, Nat.reduceLeDiff, Nat.reduceLT, Nat.reduceEqDiff, Option.isSome_some, Option.isSome_none, true_and, and_true, if_true, if_false, Bool.false_eq_true, Bool.not_true, Bool.not_false, reduceCtorEq, Nat.zero_add, Nat.zero_le, decide_eq_true_eq, Bool.not_eq_true', decide_eq_false_iff_not, ite_true, ite_false, Bool.if_false_right, Bool.if_true_left, decide_true, decide_false, Bool.true_or, Bool.or_true, Bool.false_or, Bool.or_false, Bool.true_and, Bool.and_true, Bool.false_and, Bool.and_false, List.length_map, not_true_eq_false, not_false_eq_true, false_and, and_false, bne_self_eq_false, Bool.not_eq_false])
      by_cases c2 : 0 + (i : Int) < 40
      · (try simp only [c2, lim, oOwn, oIsiC, view_bl, dep_bl, eqT_tt, eqT_ff, eqT_tf, eqT_ft, eDIn, eDGet, eDNew, eDc, keyT, eMakeX, eCallK, eRev, oRepr, eMeth, eProp, eFld, eMake, sRaise, sPar3, ends, startT, eVar, eC, eOp, tOf, eChain, tAndM, tOrM, tNotM, eAndV, eOrV, eNotV, eIf, aNil, aCons, eTup, eLst, eFrz, frzK, oI, oIC, oSub, oMod, oDiv, oPow, oLt, oLe, oGt, oGe, oAddI', oAddL, oMulI', oAdd, oMul, eNeg, oIsN, oNotN, oIx, atK, mNo, mPart, eSl, eCB, oLen, oInt, oSumL, oMax2, oMin2, oMax1, oMin1, oList, oBls, eCall, eBM, eBM0, isLs, oApp, oPop, oExt, lsOf, tTru, sNext, sSeq, sDrop, sRet, sRetN, sIf, sBreak, sCont, sNever, gN, gNil, gCons, gTup, setT, gSub, sAsg, sPar, sAug, oIxL, sAugS, oAddI, sFor, eLc, iSeq, iRange1, iRange2, iEnum, tYes, oIsi, kdOf, oEq, oNe, eqT_int, eqT_nn, eqT_in, eqT_ni,   atI_0, atI_1, atI_2, atI_3, atI_4, atI_5, atI_6, atI_7, atI_8, atI_m1, ixN_0, ixN_1,   kdN_int, kdN_bool, kdN_str, kdN_list, kdN_tuple, isK, view_int, view_non, dep_int, dep_non, cN, cN2, wipeT,   mk_true, mk_false, put_same, put_put,   List.map_cons, List.map_nil, List.length_cons, List.length_nil, List.replicate, List.cons_append, List.nil_append, List.append_nil, List.set_cons_zero, List.set_cons_succ, List.getElem?_cons_zero, List.getElem?_cons_succ, List.getElem?_nil, Nat.reduceAdd, Nat.reduceSub, Nat.reduceLeDiff, Nat.reduceLT, Nat.reduceEqDiff, Option.isSome_some, Option.isSome_none, true_and, and_true, if_true, if_false, Bool.false_eq_true, Bool.not_true, Bool.not_false, reduceCtorEq, Nat.zero_add, Nat.zero_le, decide_eq_true_eq, Bool.not_eq_true', decide_eq_false_iff_not, ite_true, ite_false, Bool.if_false_right, Bool.if_true_left, decide_true, decide_false, Bool.true_or, Bool.or_true, Bool.false_or, Bool.or_false, Bool.true_and, Bool.and_true, Bool.false_and, Bool.and_false, List.length_map, not_true_eq_false, not_false_eq_true, false_and, and_false, bne_self_eq_false, Bool.not_eq_false])
        exact hR _ ⟨_, rfl, c1⟩
      · (try simp only [c2, lim, oOwn, oIsiC, view_bl, dep_bl, eqT_tt, eqT_ff, eqT_tf, eqT_ft, eDIn, eDGet, eDNew, eDc, keyT, eMakeX, eCallK, eRev, oRepr, eMeth, eProp, eFld, eMake, sRaise, sPar3, ends, startT, eVar, eC, eOp, tOf, eChain, tAndM, tOrM, tNotM, eAndV, eOrV, eNotV, eIf, aNil, aCons, eTup, eLst, eFrz, frzK, oI, oIC, oSub, oMod, oDiv, oPow, oLt, oLe, oGt, oGe, oAddI', oAddL, oMulI', oAdd, oMul, eNeg, oIsN, oNotN, oIx, atK, mNo, mPart, eSl, eCB, oLen, oInt, oSumL, oMax2, oMin2, oMax1, oMin1, oList, oBls, eCall, eBM, eBM0, isLs, oApp, oPop, oExt, lsOf, tTru, sNext, sSeq, sDrop, sRet, sRetN, sIf, sBreak, sCont, sNever, gN, gNil, gCons, gTup, setT, gSub, sAsg, sPar, sAug, oIxL, sAugS, oAddI, sFor, eLc, iSeq, iRange1, iRange2, iEnum, tYes, oIsi, kdOf, oEq, oNe, eqT_int, eqT_nn, eqT_in, eqT_ni,   atI_0, atI_1, atI_2, atI_3, atI_4, atI_5, atI_6, atI_7, atI_8, atI_m1, ixN_0, ixN_1,   kdN_int, kdN_bool, kdN_str, kdN_list, kdN_tuple, isK, view_int, view_non, dep_int, dep_non, cN, cN2, wipeT,   mk_true, mk_false, put_same, put_put,   List.map_cons, List.map_nil, List.length_cons, List.length_nil, List.replicate, List.cons_append, List.nil_append, List.append_nil, List.set_cons_zero, List.set_cons_succ, List.getElem?_cons_zero, List.getElem?_cons_succ, List.getElem?_nil, Nat.reduceAdd, Nat.reduceSub, Nat.reduceLeDiff, Nat.reduceLT, Nat.reduceEqDiff, Option.isSome_some, Option.isSome_none, true_and, and_true, if_true, if_false, Bool.false_eq_true, Bool.not_true, Bool.not_false, reduceCtorEq, Nat.zero_add, Nat.zero_le, decide_eq_true_eq, Bool.not_eq_true', decide_eq_false_iff_not, ite_true, ite_false, Bool.if_false_right, Bool.if_true_left, decide_true, decide_false, Bool.true_or, Bool.or_true, Bool.false_or, Bool.or_false, Bool.true_and, Bool.and_true, Bool.false_and, Bool.and_false, List.length_map, not_true_eq_false, not_false_eq_true, false_and, and_false, bne_self_eq_false, Bool.not_eq_false])
        refine ⟨by decide, ?_⟩
        by_cases c3 : (0 + (i : Int)) % 97 = 0
        · (try simp only [c3, lim, oOwn, oIsiC, view_bl, dep_bl, eqT_tt, eqT_ff, eqT_tf, eqT_ft, eDIn, eDGet, eDNew, eDc, keyT, eMakeX, eCallK, eRev, oRepr, eMeth, eProp, eFld, eMake, sRaise, sPar3, ends, startT, eVar, eC, eOp, tOf, eChain, tAndM, tOrM, tNotM, eAndV, eOrV, eNotV, eIf, aNil, aCons, eTup, eLst, eFrz, frzK, oI, oIC, oSub, oMod, oDiv, oPow, oLt, oLe, oGt, oGe, oAddI', oAddL, oMulI', oAdd, oMul, eNeg, oIsN, oNotN, oIx, atK, mNo, mPart, eSl, eCB, oLen, oInt, oSumL, oMax2, oMin2, oMax1, oMin1, oList, oBls, eCall, eBM, eBM0, isLs, oApp, oPop, oExt, lsOf, tTru, sNext, sSeq, sDrop, sRet, sRetN, sIf, sBreak, sCont, sNever, gN, gNil, gCons, gTup, setT, gSub, sAsg, sPar, sAug, oIxL, sAugS, oAddI, sFor, eLc, iSeq, iRange1, iRange2, iEnum, tYes, oIsi, kdOf, oEq, oNe, eqT_int, eqT_nn, eqT_in, eqT_ni,   atI_0, atI_1, atI_2, atI_3, atI_4, atI_5, atI_6, atI_7, atI_8, atI_m1, ixN_0, ixN_1,   kdN_int, kdN_bool, kdN_str, kdN_list, kdN_tuple, isK, view_int, view_non, dep_int, dep_non, cN, cN2, wipeT,   mk_true, mk_false, put_same, put_put,   List.map_cons, List.map_nil, List.length_cons, List.length_nil, List.replicate, List.cons_append, List.nil_append, List.append_nil, List.set_cons_zero, List.set_cons_succ, List.getElem?_cons_zero, List.getElem?_cons_succ, List.getElem?_nil, Nat.reduceAdd, Nat.reduceSub, Nat.reduceLeDiff, Nat.reduceLT, Nat.reduceEqDiff, Option.isSome_some, Option.isSome_none, true_and, and_true, if_true, if_false, Bool.false_eq_true, Bool.not_true, Bool.not_false, reduceCtorEq, Nat.zero_add, Nat.zero_le, decide_eq_true_eq, Bool.not_eq_true', decide_eq_false_iff_not, ite_true, ite_false, Bool.if_false_right, Bool.if_true_left, decide_true, decide_false, Bool.true_or, Bool.or_true, Bool.false_or, Bool.or_false, Bool.true_and, Bool.and_true, Bool.false_and, Bool.and_false, List.length_map, not_true_eq_false, not_false_eq_true, false_and, and_false, bne_self_eq_false, Bool.not_eq_false])
          exact hR _ ⟨_, rfl, c1⟩
        · (try simp only [c3, lim, oOwn, oIsiC, view_bl, dep_bl, eqT_tt, eqT_ff, eqT_tf, eqT_ft, eDIn, eDGet, eDNew, eDc, keyT, eMakeX, eCallK, eRev, oRepr, eMeth, eProp, eFld, eMake, sRaise, sPar3, ends, startT, eVar, eC, eOp, tOf, eChain, tAndM, tOrM, tNotM, eAndV, eOrV, eNotV, eIf, aNil, aCons, eTup, eLst, eFrz, frzK, oI, oIC, oSub, oMod, oDiv, oPow, oLt, oLe, oGt, oGe, oAddI', oAddL, oMulI', oAdd, oMul, eNeg, oIsN, oNotN, oIx, atK, mNo, mPart, eSl, eCB, oLen, oInt, oSumL, oMax2, oMin2, oMax1, oMin1, oList, oBls, eCall, eBM, eBM0, isLs, oApp, oPop, oExt, lsOf, tTru, sNext, sSeq, sDrop, sRet, sRetN, sIf, sBreak, sCont, sNever, gN, gNil, gCons, gTup, setT, gSub, sAsg, sPar, sAug, oIxL, sAugS, oAddI, sFor, eLc, iSeq, iRange1, iRange2, iEnum, tYes, oIsi, kdOf, oEq, oNe, eqT_int, eqT_nn, eqT_in, eqT_ni,   atI_0, atI_1, atI_2, atI_3, atI_4, atI_5, atI_6, atI_7, atI_8, atI_m1, ixN_0, ixN_1,   kdN_int, kdN_bool, kdN_str, kdN_list, kdN_tuple, isK, view_int, view_non, dep_int, dep_non, cN, cN2, wipeT,   mk_true, mk_false, put_same, put_put,   List.map_cons, List.map_nil, List.length_cons, List.length_nil, List.replicate, List.cons_append, List.nil_append, List.append_nil, List.set_cons_zero, List.set_cons_succ, List.getElem?_cons_zero, List.getElem?_cons_succ, List.getElem?_nil, Nat.reduceAdd, Nat.reduceSub, Nat.reduceLeDiff, Nat.reduceLT, Nat.reduceEqDiff, Option.isSome_some, Option.isSome_none, true_and, and_true, if_true, if_false, Bool.false_eq_true, Bool.not_true, Bool.not_false, reduceCtorEq, Nat.zero_add, Nat.zero_le, decide_eq_true_eq, Bool.not_eq_true', decide_eq_false_iff_not, ite_true, ite_false, Bool.if_false_right, Bool.if_true_left, decide_true, decide_false, Bool.true_or, Bool.or_true, Bool.false_or, Bool.or_false, Bool.true_and, Bool.and_true, Bool.false_and, Bool.and_false, List.length_map, not_true_eq_false, not_false_eq_true, false_and, and_false, bne_self_eq_false, Bool.not_eq_false])
          exact hn
    · (try simp only [c1, lim, oOwn, oIsiC, view_bl, dep_bl, eqT_tt, eqT_ff, eqT_tf, eqT_ft, eDIn, eDGet, eDNew, eDc, keyT, eMakeX, eCallK, eRev, oRepr, eMeth, eProp, eFld, eMake, sRaise, sPar3, ends, startT, eVar, eC, eOp, tOf, eChain, tAndM, tOrM, tNotM, eAndV, eOrV, eNotV, eIf, aNil, aCons, eTup, eLst, eFrz, frzK, oI, oIC, oSub, oMod, oDiv, oPow, oLt, oLe, oGt, oGe, oAddI', oAddL, oMulI', oAdd, oMul, eNeg, oIsN, oNotN, oIx, atK, mNo, mPart, eSl, eCB, oLen, oInt, oSumL, oMax2, oMin2, oMax1, oMin1, oList, oBls, eCall, eBM, eBM0, isLs, oApp, oPop, oExt, lsOf, tTru, sNext, sSeq, sDrop, sRet, sRetN, sIf, sBreak, sCont, sNever, gN, gNil, gCons, gTup, setT, gSub, sAsg, sPar, sAug, oIxL, sAugS, oAddI, sFor, eLc, iSeq, iRange1, iRange2, iEnum, tYes, oIsi, kdOf, oEq, oNe, eqT_int, eqT_nn, eqT_in, eqT_ni,   atI_0, atI_1, atI_2, atI_3, atI_4, atI_5, atI_6, atI_7, atI_8, atI_m1, ixN_0, ixN_1,   kdN_int, kdN_bool, kdN_str, kdN_list, kdN_tuple, isK, view_int, view_non, dep_int, dep_non, cN, cN2, wipeT,   mk_true, mk_false, put_same, put_put,   List.map_cons, List.map_nil, List.length_cons, List.length_nil, List.replicate, List.cons_append, List.nil_append, List.append_nil, List.set_cons_zero, List.set_cons_succ, List.getElem?_cons_zero, List.getElem?_cons_succ, List.getElem?_nil, Nat.reduceAdd, Nat.reduceSub, Nat.reduceLeDiff, Nat.reduceLT, Nat.reduceEqDiff, Option.isSome_some, Option.isSome_none, true_and, and_true, if_true, if_false, Bool.false_eq_true, Bool.not_true, Bool.not_false, reduceCtorEq, Nat.zero_add, Nat.zero_le, decide_eq_true_eq, Bool.not_eq_true', decide_eq_false_iff_not, ite_true, ite_false, Bool.if_false_right, Bool.if_true_left, decide_true, decide_false, Bool.true_or, Bool.or_true, Bool.false_or, Bool.or_false, Bool.true_and, Bool.and_true, Bool.false_and, Bool.and_false, List.length_map, not_true_eq_false, not_false_eq_true, false_and, and_false, bne_self_eq_false, Bool.not_eq_false])
      exact hn
  rw [rng_len] at hl
  (try simp only [mk, lim, oOwn, oIsiC, view_bl, dep_bl, eqT_tt, eqT_ff, eqT_tf, eqT_ft, eDIn, eDGet, eDNew, eDc, keyT, eMakeX, eCallK, eRev, oRepr, eMeth, eProp, eFld, eMake, sRaise, sPar3, ends, startT, eVar, eC, eOp, tOf, eChain, tAndM, tOrM, tNotM, eAndV, eOrV, eNotV, eIf, aNil, aCons, eTup, eLst, eFrz, frzK, oI, oIC, oSub, oMod, oDiv, oPow, oLt, oLe, oGt, oGe, oAddI', oAddL, oMulI', oAdd, oMul, eNeg, oIsN, oNotN, oIx, atK, mNo, mPart, eSl, eCB, oLen, oInt, oSumL, oMax2, oMin2, oMax1, oMin1, oList, oBls, eCall, eBM, eBM0, isLs, oApp, oPop, oExt, lsOf, tTru, sNext, sSeq, sDrop, sRet, sRetN, sIf, sBreak, sCont, sNever, gN, gNil, gCons, gTup, setT, gSub, sAsg, sPar, sAug, oIxL, sAugS, oAddI, sFor, eLc, iSeq, iRange1, iRange2, iEnum, tYes, oIsi, kdOf, oEq, oNe, eqT_int, eqT_nn, eqT_in, eqT_ni,   atI_0, atI_1, atI_2, atI_3, atI_4, atI_5, atI_6, atI_7, atI_8, atI_m1, ixN_0, ixN_1,   kdN_int, kdN_bool, kdN_str, kdN_list, kdN_tuple, isK, view_int, view_non, dep_int, dep_non, cN, cN2, wipeT,   mk_true, mk_false, put_same, put_put,   List.map_cons, List.map_nil, List.length_cons, List.length_nil, List.replicate, List.cons_append, List.nil_append, List.append_nil, List.set_cons_zero, List.set_cons_succ, List.getElem?_cons_zero, List.getElem?_cons_succ, List.getElem?_nil, Nat.reduceAdd, Nat.reduceSub, Nat.reduceLeDiff, Nat.reduceLT, Nat.reduceEqDiff, Option.isSome_some, Option.isSome_none, true_and, and_true, if_true, if_false, Bool.false_eq_true, Bool.not_true, Bool.not_false, reduceCtorEq, Nat.zero_add, Nat.zero_le, decide_eq_true_eq, Bool.not_eq_true', decide_eq_false_iff_not, ite_true, ite_false, Bool.if_false_right, Bool.if_true_left, decide_true, decide_false, Bool.true_or, Bool.or_true, Bool.false_or, Bool.or_false, Bool.true_and, Bool.and_true, Bool.false_and, Bool.and_false, List.length_map, not_true_eq_false, not_false_eq_true, false_and, and_false, bne_self_eq_false, Bool.not_eq_false])
  refine ⟨by show 1 + ys.length ≤ 1000000; omega, kN _ _ ?_⟩
  clear kN N
  have hys' : ∀ y ∈ T.int 0 :: ys, ∃ k : Int, y = .int k ∧ 0 ≤ k := fun y hy => by
    rcases List.mem_cons.mp hy with w | w
    · exact ⟨0, w, by decide⟩
    · exact hys y w
  have hl' : (T.int 0 :: ys).length ≤ 1000000 := by simp; omega
  generalize T.int 0 :: ys = zs at hys' hl'
  clear hys hl
  refine seq_gen fun N kN => ?_
  (try simp only [e1, lim, oOwn, oIsiC, view_bl, dep_bl, eqT_tt, eqT_ff, eqT_tf, eqT_ft, eDIn, eDGet, eDNew, eDc, keyT, eMakeX, eCallK, eRev, oRepr, eMeth, eProp, eFld, eMake, sRaise, sPar3, ends, startT, eVar, eC, eOp, tOf, eChain, tAndM, tOrM, tNotM, eAndV, eOrV, eNotV, eIf, aNil, aCons, eTup, eLst, eFrz, frzK, oI, oIC, oSub, oMod, oDiv, oPow, oLt, oLe, oGt, oGe, oAddI', oAddL, oMulI', oAdd, oMul, eNeg, oIsN, oNotN, oIx, atK, mNo, mPart, eSl, eCB, oLen, oInt, oSumL, oMax2, oMin2, oMax1, oMin1, oList, oBls, eCall, eBM, eBM0, isLs, oApp, oPop, oExt, lsOf, tTru, sNext, sSeq, sDrop, sRet, sRetN, sIf, sBreak, sCont, sNever, gN, gNil, gCons, gTup, setT, gSub, sAsg, sPar, sAug, oIxL, sAugS, oAddI, sFor, eLc, iSeq, iRange1, iRange2, iEnum, tYes, oIsi, kdOf, oEq, oNe, eqT_int, eqT_nn, eqT_in, eqT_ni,   atI_0, atI_1, atI_2, atI_3, atI_4, atI_5, atI_6, atI_7, atI_8, atI_m1, ixN_0, ixN_1,   kdN_int, kdN_bool, kdN_str, kdN_list, kdN_tuple, isK, view_int, view_non, dep_int, dep_non, cN, cN2, wipeT,   mk_true, mk_false, put_same, put_put,   List.map_cons, List.map_nil, List.length_cons, List.length_nil, List.replicate, List.cons_append, List.nil_append, List.append_nil, List.set_cons_zero, List.set_cons_succ, List.getElem?_cons_zero, List.getElem?_cons_succ, List.getElem?_nil, Nat.reduceAdd, Nat.reduceSub, Nat.reduceLeDiff, Nat.reduceLT, Nat.reduceEqDiff, Option.isSome_some, Option.isSome_none, true_and, and_true, if_true, if_false, Bool.false_eq_true, Bool.not_true, Bool.not_false, reduceCtorEq, Nat.zero_add, Nat.zero_le, decide_eq_true_eq, Bool.not_eq_true', decide_eq_false_iff_not, ite_true, ite_false, Bool.if_false_right, Bool.if_true_left, decide_true, decide_false, Bool.true_or, Bool.or_true, Bool.false_or, Bool.or_false, Bool.true_and, Bool.and_true, Bool.false_and, Bool.and_false, List.length_map, not_true_eq_false, not_false_eq_true, false_and, and_false, bne_self_eq_false, Bool.not_eq_false])
  refine lcK_anyF (fun y => y = .int 1 ∧ ¬ GB.Le f r t b f' r' t' b') trivial hl' (fun z hz R hn hR => ?_) (fun ys hl hys => ?_)
  · obtain ⟨k, rfl, hk⟩ := hys' z hz
    (try simp only [cN, C_law_step, lim, oOwn, oIsiC, view_bl, dep_bl, eqT_tt, eqT_ff, eqT_tf, eqT_ft, eDIn, eDGet, eDNew, eDc, keyT, eMakeX, eCallK, eRev, oRepr, eMeth, eProp, eFld, eMake, sRaise, sPar3, ends, startT, eVar, eC, eOp, tOf, eChain, tAndM, tOrM, tNotM, eAndV, eOrV, eNotV, eIf, aNil, aCons, eTup, eLst, eFrz, frzK, oI, oIC, oSub, oMod, oDiv, oPow, oLt, oLe, oGt, oGe, oAddI', oAddL, oMulI', oAdd, oMul, eNeg, oIsN, oNotN, oIx, atK, mNo, mPart, eSl, eCB, oLen, oInt, oSumL, oMax2, oMin2, oMax1, oMin1, oList, oBls, eCall, eBM, eBM0, isLs, oApp, oPop, oExt, lsOf, tTru, sNext, sSeq, sDrop, sRet, sRetN, sIf, sBreak, sCont, sNever, gN, gNil, gCons, gTup, setT, gSub, sAsg, sPar, sAug, oIxL, sAugS, oAddI, sFor, eLc, iSeq, iRange1, iRange2, iEnum, tYes, oIsi, kdOf, oEq, oNe, eqT_int, eqT_nn, eqT_in, eqT_ni,   atI_0, atI_1, atI_2, atI_3, atI_4, atI_5, atI_6, atI_7, atI_8, atI_m1, ixN_0, ixN_1,   kdN_int, kdN_bool, kdN_str, kdN_list, kdN_tuple, isK, view_int, view_non, dep_int, dep_non, cN, cN2, wipeT,   mk_true, mk_false, put_same, put_put,   List.map_cons, List.map_nil, List.length_cons, List.length_nil, List.replicate, List.cons_append, List.nil_append, List.append_nil, List.set_cons_zero, List.set_cons_succ, List.getElem?_cons_zero, List.getElem?_cons_succ, List.getElem?_nil, Nat.reduceAdd, Nat.reduceSub, Nat.reduceLeDiff, Nat.reduceLT, Nat.reduceEqDiff, Option.isSome_some, Option.isSome_none, true_and, and_true, if_true, if_false, Bool.false_eq_true, Bool.not_true, Bool.not_false, reduceCtorEq, Nat.zero_add, Nat.zero_le, decide_eq_true_eq, Bool.not_eq_true', decide_eq_false_iff_not, ite_true, ite_false, Bool.if_false_right, Bool.if_true_left, decide_true, decide_false, Bool.true_or, Bool.or_true, Bool.false_or, Bool.or_false, Bool.true_and, Bool.and_true, Bool.false_and, Bool.and_false, List.length_map, not_true_eq_false, not_false_eq_true, false_and, and_false, bne_self_eq_false, Bool.not_eq_false])
    refine ⟨f, r, t, b, k, rfl, o, f', r', t', b', k, rfl, o', ?_⟩
    by_cases c1 : GB.step f r t b k > GB.step f' r' t' b' k
    · (try simp only [c1, lim, oOwn, oIsiC, view_bl, dep_bl, eqT_tt, eqT_ff, eqT_tf, eqT_ft, eDIn, eDGet, eDNew, eDc, keyT, eMakeX, eCallK, eRev, oRepr, eMeth, eProp, eFld, eMake, sRaise, sPar3, ends, startT, eVar, eC, eOp, tOf, eChain, tAndM, tOrM, tNotM, eAndV, eOrV, eNotV, eIf, aNil, aCons, eTup, eLst, eFrz, frzK, oI, oIC, oSub, oMod, oDiv, oPow, oLt, oLe, oGt, oGe, oAddI', oAddL, oMulI', oAdd, oMul, eNeg, oIsN, oNotN, oIx, atK, mNo, mPart, eSl, eCB, oLen, oInt, oSumL, oMax2, oMin2, oMax1, oMin1, oList, oBls, eCall, eBM, eBM0, isLs, oApp, oPop, oExt, lsOf, tTru, sNext, sSeq, sDrop, sRet, sRetN, sIf, sBreak, sCont, sNever, gN, gNil, gCons, gTup, setT, gSub, sAsg, sPar, sAug, oIxL, sAugS, oAddI, sFor, eLc, iSeq, iRange1, iRange2, iEnum, tYes, oIsi, kdOf, oEq, oNe, eqT_int, eqT_nn, eqT_in, eqT_ni,   atI_0, atI_1, atI_2, atI_3, atI_4, atI_5, atI_6, atI_7, atI_8, atI_m1, ixN_0, ixN_1,   kdN_int, kdN_bool, kdN_str, kdN_list, kdN_tuple, isK, view_int, view_non, dep_int, dep_non, cN, cN2, wipeT,   mk_true, mk_false, put_same, put_put,   List.map_cons, List.map_nil, List.length_cons, List.length_nil, List.replicate, List.cons_append, List.nil_append, List.append_nil, List.set_cons_zero, List.set_cons_succ, List.getElem?_cons_zero, List.getElem?_cons_succ, List.getElem?_nil, Nat.reduceAdd, Nat.reduceSub, Nat.reduceLeDiff, Nat.reduceLT, Nat.reduceEqDiff, Option.isSome_some, Option.isSome_none, true_and, and_true, if_true, if_false, Bool.false_eq_true, Bool.not_true, Bool.not_false, reduceCtorEq, Nat.zero_add, Nat.zero_le, decide_eq_true_eq, Bool.not_eq_true', decide_eq_false_iff_not, ite_true, ite_false, Bool.if_false_right, Bool.if_true_left, decide_true, decide_false, Bool.true_or, Bool.or_true, Bool.false_or, Bool.or_false, Bool.true_and, Bool.and_true, Bool.false_and, Bool.and_false, List.length_map, not_true_eq_false, not_false_eq_true, false_and, and_false, bne_self_eq_false, Bool.not_eq_false])
      refine hR _ ⟨rfl, fun le => ?_⟩
      have := le k hk
      omega
    · (try simp only [c1, lim, oOwn, oIsiC, view_bl, dep_bl, eqT_tt, eqT_ff, eqT_tf, eqT_ft, eDIn, eDGet, eDNew, eDc, keyT, eMakeX, eCallK, eRev, oRepr, eMeth, eProp, eFld, eMake, sRaise, sPar3, ends, startT, eVar, eC, eOp, tOf, eChain, tAndM, tOrM, tNotM, eAndV, eOrV, eNotV, eIf, aNil, aCons, eTup, eLst, eFrz, frzK, oI, oIC, oSub, oMod, oDiv, oPow, oLt, oLe, oGt, oGe, oAddI', oAddL, oMulI', oAdd, oMul, eNeg, oIsN, oNotN, oIx, atK, mNo, mPart, eSl, eCB, oLen, oInt, oSumL, oMax2, oMin2, oMax1, oMin1, oList, oBls, eCall, eBM, eBM0, isLs, oApp, oPop, oExt, lsOf, tTru, sNext, sSeq, sDrop, sRet, sRetN, sIf, sBreak, sCont, sNever, gN, gNil, gCons, gTup, setT, gSub, sAsg, sPar, sAug, oIxL, sAugS, oAddI, sFor, eLc, iSeq, iRange1, iRange2, iEnum, tYes, oIsi, kdOf, oEq, oNe, eqT_int, eqT_nn, eqT_in, eqT_ni,   atI_0, atI_1, atI_2, atI_3, atI_4, atI_5, atI_6, atI_7, atI_8, atI_m1, ixN_0, ixN_1,   kdN_int, kdN_bool, kdN_str, kdN_list, kdN_tuple, isK, view_int, view_non, dep_int, dep_non, cN, cN2, wipeT,   mk_true, mk_false, put_same, put_put,   List.map_cons, List.map_nil, List.length_cons, List.length_nil, List.replicate, List.cons_append, List.nil_append, List.append_nil, List.set_cons_zero, List.set_cons_succ, List.getElem?_cons_zero, List.getElem?_cons_succ, List.getElem?_nil, Nat.reduceAdd, Nat.reduceSub, Nat.reduceLeDiff, Nat.reduceLT, Nat.reduceEqDiff, Option.isSome_some, Option.isSome_none, true_and, and_true, if_true, if_false, Bool.false_eq_true, Bool.not_true, Bool.not_false, reduceCtorEq, Nat.zero_add, Nat.zero_le, decide_eq_true_eq, Bool.not_eq_true', decide_eq_false_iff_not, ite_true, ite_false, Bool.if_false_right, Bool.if_true_left, decide_true, decide_false, Bool.true_or, Bool.or_true, Bool.false_or, Bool.or_false, Bool.true_and, Bool.and_true, Bool.false_and, Bool.and_false, List.length_map, not_true_eq_false, not_false_eq_true, false_and, and_false, bne_self_eq_false, Bool.not_eq_false])
      exact hn
  have ey : ∃ us : List Int, ys = us.map T.int := ⟨ys.map fun _ => 1, by
    rw [List.map_map]
    conv => lhs; rw [← List.map_id ys]
    exact List.map_congr_left fun y hy => (hys y hy).1⟩
  obtain ⟨us, eu⟩ := ey
  have d1 : depth? (view h (.lst ys)) = true := by rw [eu]; exact dep (n := 2) (cln_dat 2 _ (ci_cln 0 us))
  have d2 : depth? (view h (.lst [])) = true := rfl
  have ev : GB.Le f r t b f' r' t' b' → eqT (view h (.lst ys)) (view h (.lst [])) = true := fun le => by
    have : ys = [] := by
      cases ys with
      | nil => rfl
      | cons y r => exact absurd le (hys y List.mem_cons_self).2
    rw [this]; rfl
  (try simp only [mk, lim, oOwn, oIsiC, view_bl, dep_bl, eqT_tt, eqT_ff, eqT_tf, eqT_ft, eDIn, eDGet, eDNew, eDc, keyT, eMakeX, eCallK, eRev, oRepr, eMeth, eProp, eFld, eMake, sRaise, sPar3, ends, startT, eVar, eC, eOp, tOf, eChain, tAndM, tOrM, tNotM, eAndV, eOrV, eNotV, eIf, aNil, aCons, eTup, eLst, eFrz, frzK, oI, oIC, oSub, oMod, oDiv, oPow, oLt, oLe, oGt, oGe, oAddI', oAddL, oMulI', oAdd, oMul, eNeg, oIsN, oNotN, oIx, atK, mNo, mPart, eSl, eCB, oLen, oInt, oSumL, oMax2, oMin2, oMax1, oMin1, oList, oBls, eCall, eBM, eBM0, isLs, oApp, oPop, oExt, lsOf, tTru, sNext, sSeq, sDrop, sRet, sRetN, sIf, sBreak, sCont, sNever, gN, gNil, gCons, gTup, setT, gSub, sAsg, sPar, sAug, oIxL, sAugS, oAddI, sFor, eLc, iSeq, iRange1, iRange2, iEnum, tYes, oIsi, kdOf, oEq, oNe, eqT_int, eqT_nn, eqT_in, eqT_ni,   atI_0, atI_1, atI_2, atI_3, atI_4, atI_5, atI_6, atI_7, atI_8, atI_m1, ixN_0, ixN_1,   kdN_int, kdN_bool, kdN_str, kdN_list, kdN_tuple, isK, view_int, view_non, dep_int, dep_non, cN, cN2, wipeT,   mk_true, mk_false, put_same, put_put,   List.map_cons, List.map_nil, List.length_cons, List.length_nil, List.replicate, List.cons_append, List.nil_append, List.append_nil, List.set_cons_zero, List.set_cons_succ, List.getElem?_cons_zero, List.getElem?_cons_succ, List.getElem?_nil, Nat.reduceAdd, Nat.reduceSub, Nat.reduceLeDiff, Nat.reduceLT, Nat.reduceEqDiff, Option.isSome_some, Option.isSome_none, true_and, and_true, if_true, if_false, Bool.false_eq_true, Bool.not_true, Bool.not_false, reduceCtorEq, Nat.zero_add, Nat.zero_le, decide_eq_true_eq, Bool.not_eq_true', decide_eq_false_iff_not, ite_true, ite_false, Bool.if_false_right, Bool.if_true_left, decide_true, decide_false, Bool.true_or, Bool.or_true, Bool.false_or, Bool.or_false, Bool.true_and, Bool.and_true, Bool.false_and, Bool.and_false, List.length_map, not_true_eq_false, not_false_eq_true, false_and, and_false, bne_self_eq_false, Bool.not_eq_false])
  refine ⟨d1, d2, kN _ _ ?_⟩
  clear kN N
  generalize eqT (view h (.lst ys)) (view h (.lst [])) = v at ev
  clear d1 d2 eu us hys hl ys
  refine seq_gen fun N kN => ?_
  (try simp only [C_law_made, lim, oOwn, oIsiC, view_bl, dep_bl, eqT_tt, eqT_ff, eqT_tf, eqT_ft, eDIn, eDGet, eDNew, eDc, keyT, eMakeX, eCallK, eRev, oRepr, eMeth, eProp, eFld, eMake, sRaise, sPar3, ends, startT, eVar, eC, eOp, tOf, eChain, tAndM, tOrM, tNotM, eAndV, eOrV, eNotV, eIf, aNil, aCons, eTup, eLst, eFrz, frzK, oI, oIC, oSub, oMod, oDiv, oPow, oLt, oLe, oGt, oGe, oAddI', oAddL, oMulI', oAdd, oMul, eNeg, oIsN, oNotN, oIx, atK, mNo, mPart, eSl, eCB, oLen, oInt, oSumL, oMax2, oMin2, oMax1, oMin1, oList, oBls, eCall, eBM, eBM0, isLs, oApp, oPop, oExt, lsOf, tTru, sNext, sSeq, sDrop, sRet, sRetN, sIf, sBreak, sCont, sNever, gN, gNil, gCons, gTup, setT, gSub, sAsg, sPar, sAug, oIxL, sAugS, oAddI, sFor, eLc, iSeq, iRange1, iRange2, iEnum, tYes, oIsi, kdOf, oEq, oNe, eqT_int, eqT_nn, eqT_in, eqT_ni,   atI_0, atI_1, atI_2, atI_3, atI_4, atI_5, atI_6, atI_7, atI_8, atI_m1, ixN_0, ixN_1,   kdN_int, kdN_bool, kdN_str, kdN_list, kdN_tuple, isK, view_int, view_non, dep_int, dep_non, cN, cN2, wipeT,   mk_true, mk_false, put_same, put_put,   List.map_cons, List.map_nil, List.length_cons, List.length_nil, List.replicate, List.cons_append, List.nil_append, List.append_nil, List.set_cons_zero, List.set_cons_succ, List.getElem?_cons_zero, List.getElem?_cons_succ, List.getElem?_nil, Nat.reduceAdd, Nat.reduceSub, Nat.reduceLeDiff, Nat.reduceLT, Nat.reduceEqDiff, Option.isSome_some, Option.isSome_none, true_and, and_true, if_true, if_false, Bool.false_eq_true, Bool.not_true, Bool.not_false, reduceCtorEq, Nat.zero_add, Nat.zero_le, decide_eq_true_eq, Bool.not_eq_true', decide_eq_false_iff_not, ite_true, ite_false, Bool.if_false_right, Bool.if_true_left, decide_true, decide_false, Bool.true_or, Bool.or_true, Bool.false_or, Bool.or_false, Bool.true_and, Bool.and_true, Bool.false_and, Bool.and_false, List.length_map, not_true_eq_false, not_false_eq_true, false_and, and_false, bne_self_eq_false, Bool.not_eq_false])
  refine ⟨f, r, t, b, rfl, o, fun p2 np2 => ?_⟩
  (try simp only [del_put np2, lim, oOwn, oIsiC, view_bl, dep_bl, eqT_tt, eqT_ff, eqT_tf, eqT_ft, eDIn, eDGet, eDNew, eDc, keyT, eMakeX, eCallK, eRev, oRepr, eMeth, eProp, eFld, eMake, sRaise, sPar3, ends, startT, eVar, eC, eOp, tOf, eChain, tAndM, tOrM, tNotM, eAndV, eOrV, eNotV, eIf, aNil, aCons, eTup, eLst, eFrz, frzK, oI, oIC, oSub, oMod, oDiv, oPow, oLt, oLe, oGt, oGe, oAddI', oAddL, oMulI', oAdd, oMul, eNeg, oIsN, oNotN, oIx, atK, mNo, mPart, eSl, eCB, oLen, oInt, oSumL, oMax2, oMin2, oMax1, oMin1, oList, oBls, eCall, eBM, eBM0, isLs, oApp, oPop, oExt, lsOf, tTru, sNext, sSeq, sDrop, sRet, sRetN, sIf, sBreak, sCont, sNever, gN, gNil, gCons, gTup, setT, gSub, sAsg, sPar, sAug, oIxL, sAugS, oAddI, sFor, eLc, iSeq, iRange1, iRange2, iEnum, tYes, oIsi, kdOf, oEq, oNe, eqT_int, eqT_nn, eqT_in, eqT_ni,   atI_0, atI_1, atI_2, atI_3, atI_4, atI_5, atI_6, atI_7, atI_8, atI_m1, ixN_0, ixN_1,   kdN_int, kdN_bool, kdN_str, kdN_list, kdN_tuple, isK, view_int, view_non, dep_int, dep_non, cN, cN2, wipeT,   mk_true, mk_false, put_same, put_put,   List.map_cons, List.map_nil, List.length_cons, List.length_nil, List.replicate, List.cons_append, List.nil_append, List.append_nil, List.set_cons_zero, List.set_cons_succ, List.getElem?_cons_zero, List.getElem?_cons_succ, List.getElem?_nil, Nat.reduceAdd, Nat.reduceSub, Nat.reduceLeDiff, Nat.reduceLT, Nat.reduceEqDiff, Option.isSome_some, Option.isSome_none, true_and, and_true, if_true, if_false, Bool.false_eq_true, Bool.not_true, Bool.not_false, reduceCtorEq, Nat.zero_add, Nat.zero_le, decide_eq_true_eq, Bool.not_eq_true', decide_eq_false_iff_not, ite_true, ite_false, Bool.if_false_right, Bool.if_true_left, decide_true, decide_false, Bool.true_or, Bool.or_true, Bool.false_or, Bool.or_false, Bool.true_and, Bool.and_true, Bool.false_and, Bool.and_false, List.length_map, not_true_eq_false, not_false_eq_true, false_and, and_false, bne_self_eq_false, Bool.not_eq_false])
  refine ⟨f', r', t', b', rfl, o', fun p3 np3 => ?_⟩
  (try simp only [del_put np3, insOf, C_Book___le__, lim, oOwn, oIsiC, view_bl, dep_bl, eqT_tt, eqT_ff, eqT_tf, eqT_ft, eDIn, eDGet, eDNew, eDc, keyT, eMakeX, eCallK, eRev, oRepr, eMeth, eProp, eFld, eMake, sRaise, sPar3, ends, startT, eVar, eC, eOp, tOf, eChain, tAndM, tOrM, tNotM, eAndV, eOrV, eNotV, eIf, aNil, aCons, eTup, eLst, eFrz, frzK, oI, oIC, oSub, oMod, oDiv, oPow, oLt, oLe, oGt, oGe, oAddI', oAddL, oMulI', oAdd, oMul, eNeg, oIsN, oNotN, oIx, atK, mNo, mPart, eSl, eCB, oLen, oInt, oSumL, oMax2, oMin2, oMax1, oMin1, oList, oBls, eCall, eBM, eBM0, isLs, oApp, oPop, oExt, lsOf, tTru, sNext, sSeq, sDrop, sRet, sRetN, sIf, sBreak, sCont, sNever, gN, gNil, gCons, gTup, setT, gSub, sAsg, sPar, sAug, oIxL, sAugS, oAddI, sFor, eLc, iSeq, iRange1, iRange2, iEnum, tYes, oIsi, kdOf, oEq, oNe, eqT_int, eqT_nn, eqT_in, eqT_ni,   atI_0, atI_1, atI_2, atI_3, atI_4, atI_5, atI_6, atI_7, atI_8, atI_m1, ixN_0, ixN_1,   kdN_int, kdN_bool, kdN_str, kdN_list, kdN_tuple, isK, view_int, view_non, dep_int, dep_non, cN, cN2, wipeT,   mk_true, mk_false, put_same, put_put,   List.map_cons, List.map_nil, List.length_cons, List.length_nil, List.replicate, List.cons_append, List.nil_append, List.append_nil, List.set_cons_zero, List.set_cons_succ, List.getElem?_cons_zero, List.getElem?_cons_succ, List.getElem?_nil, Nat.reduceAdd, Nat.reduceSub, Nat.reduceLeDiff, Nat.reduceLT, Nat.reduceEqDiff, Option.isSome_some, Option.isSome_none, true_and, and_true, if_true, if_false, Bool.false_eq_true, Bool.not_true, Bool.not_false, reduceCtorEq, Nat.zero_add, Nat.zero_le, decide_eq_true_eq, Bool.not_eq_true', decide_eq_false_iff_not, ite_true, ite_false, Bool.if_false_right, Bool.if_true_left, decide_true, decide_false, Bool.true_or, Bool.or_true, Bool.false_or, Bool.or_false, Bool.true_and, Bool.and_true, Bool.false_and, Bool.and_false, List.length_map, not_true_eq_false, not_false_eq_true, false_and, and_false, bne_self_eq_false, Bool.not_eq_false])
  refine ⟨_, _, f, r, t, b, f', r', t', b', rfl, rfl, rfl, o, o', fun w hw => ?_⟩
  have wv : w = true → v = true := fun z => ev (hw.mp z)
  cases w
  case' true => rw [wv rfl]
  all_goals (try simp only [ends, lim, oOwn, oIsiC, view_bl, dep_bl, eqT_tt, eqT_ff, eqT_tf, eqT_ft, eDIn, eDGet, eDNew, eDc, keyT, eMakeX, eCallK, eRev, oRepr, eMeth, eProp, eFld, eMake, sRaise, sPar3, ends, startT, eVar, eC, eOp, tOf, eChain, tAndM, tOrM, tNotM, eAndV, eOrV, eNotV, eIf, aNil, aCons, eTup, eLst, eFrz, frzK, oI, oIC, oSub, oMod, oDiv, oPow, oLt, oLe, oGt, oGe, oAddI', oAddL, oMulI', oAdd, oMul, eNeg, oIsN, oNotN, oIx, atK, mNo, mPart, eSl, eCB, oLen, oInt, oSumL, oMax2, oMin2, oMax1, oMin1, oList, oBls, eCall, eBM, eBM0, isLs, oApp, oPop, oExt, lsOf, tTru, sNext, sSeq, sDrop, sRet, sRetN, sIf, sBreak, sCont, sNever, gN, gNil, gCons, gTup, setT, gSub, sAsg, sPar, sAug, oIxL, sAugS, oAddI, sFor, eLc, iSeq, iRange1, iRange2, iEnum, tYes, oIsi, kdOf, oEq, oNe, eqT_int, eqT_nn, eqT_in, eqT_ni,   atI_0, atI_1, atI_2, atI_3, atI_4, atI_5, atI_6, atI_7, atI_8, atI_m1, ixN_0, ixN_1,   kdN_int, kdN_bool, kdN_str, kdN_list, kdN_tuple, isK, view_int, view_non, dep_int, dep_non, cN, cN2, wipeT,   mk_true, mk_false, put_same, put_put,   List.map_cons, List.map_nil, List.length_cons, List.length_nil, List.replicate, List.cons_append, List.nil_append, List.append_nil, List.set_cons_zero, List.set_cons_succ, List.getElem?_cons_zero, List.getElem?_cons_succ, List.getElem?_nil, Nat.reduceAdd, Nat.reduceSub, Nat.reduceLeDiff, Nat.reduceLT, Nat.reduceEqDiff, Option.isSome_some, Option.isSome_none, true_and, and_true, if_true, if_false, Bool.false_eq_true, Bool.not_true, Bool.not_false, reduceCtorEq, Nat.zero_add, Nat.zero_le, decide_eq_true_eq, Bool.not_eq_true', decide_eq_false_iff_not, ite_true, ite_false, Bool.if_false_right, Bool.if_true_left, decide_true, decide_false, Bool.true_or, Bool.or_true, Bool.false_or, Bool.or_false, Bool.true_and, Bool.and_true, Bool.false_and, Bool.and_false, List.length_map, not_true_eq_false, not_false_eq_true, false_and, and_false, bne_self_eq_false, Bool.not_eq_false])
  all_goals refine kN _ _ ?_
  all_goals clear kN N wv hw ev
  all_goals
    refine seq_gen fun N kN => ?_
    (try simp only [ptT, lim, oOwn, oIsiC, view_bl, dep_bl, eqT_tt, eqT_ff, eqT_tf, eqT_ft, eDIn, eDGet, eDNew, eDc, keyT, eMakeX, eCallK, eRev, oRepr, eMeth, eProp, eFld, eMake, sRaise, sPar3, ends, startT, eVar, eC, eOp, tOf, eChain, tAndM, tOrM, tNotM, eAndV, eOrV, eNotV, eIf, aNil, aCons, eTup, eLst, eFrz, frzK, oI, oIC, oSub, oMod, oDiv, oPow, oLt, oLe, oGt, oGe, oAddI', oAddL, oMulI', oAdd, oMul, eNeg, oIsN, oNotN, oIx, atK, mNo, mPart, eSl, eCB, oLen, oInt, oSumL, oMax2, oMin2, oMax1, oMin1, oList, oBls, eCall, eBM, eBM0, isLs, oApp, oPop, oExt, lsOf, tTru, sNext, sSeq, sDrop, sRet, sRetN, sIf, sBreak, sCont, sNever, gN, gNil, gCons, gTup, setT, gSub, sAsg, sPar, sAug, oIxL, sAugS, oAddI, sFor, eLc, iSeq, iRange1, iRange2, iEnum, tYes, oIsi, kdOf, oEq, oNe, eqT_int, eqT_nn, eqT_in, eqT_ni,   atI_0, atI_1, atI_2, atI_3, atI_4, atI_5, atI_6, atI_7, atI_8, atI_m1, ixN_0, ixN_1,   kdN_int, kdN_bool, kdN_str, kdN_list, kdN_tuple, isK, view_int, view_non, dep_int, dep_non, cN, cN2, wipeT,   mk_true, mk_false, put_same, put_put,   List.map_cons, List.map_nil, List.length_cons, List.length_nil, List.replicate, List.cons_append, List.nil_append, List.append_nil, List.set_cons_zero, List.set_cons_succ, List.getElem?_cons_zero, List.getElem?_cons_succ, List.getElem?_nil, Nat.reduceAdd, Nat.reduceSub, Nat.reduceLeDiff, Nat.reduceLT, Nat.reduceEqDiff, Option.isSome_some, Option.isSome_none, true_and, and_true, if_true, if_false, Bool.false_eq_true, Bool.not_true, Bool.not_false, reduceCtorEq, Nat.zero_add, Nat.zero_le, decide_eq_true_eq, Bool.not_eq_true', decide_eq_false_iff_not, ite_true, ite_false, Bool.if_false_right, Bool.if_true_left, decide_true, decide_false, Bool.true_or, Bool.or_true, Bool.false_or, Bool.or_false, Bool.true_and, Bool.and_true, Bool.false_and, Bool.and_false, List.length_map, not_true_eq_false, not_false_eq_true, false_and, and_false, bne_self_eq_false, Bool.not_eq_false])
    refine ⟨.inr (.inl (by omega)), .inr (.inl (by omega)), kN _ _ ?_⟩
    clear kN N
    refine seq_gen fun N kN => ?_
    by_cases c1 : t' * b < t * b'
    · by_cases c2 : r = r'
      · subst c2
        (try simp only [c1, eqT_int, lim, oOwn, oIsiC, view_bl, dep_bl, eqT_tt, eqT_ff, eqT_tf, eqT_ft, eDIn, eDGet, eDNew, eDc, keyT, eMakeX, eCallK, eRev, oRepr, eMeth, eProp, eFld, eMake, sRaise, sPar3, ends, startT, eVar, eC, eOp, tOf, eChain, tAndM, tOrM, tNotM, eAndV, eOrV, eNotV, eIf, aNil, aCons, eTup, eLst, eFrz, frzK, oI, oIC, oSub, oMod, oDiv, oPow, oLt, oLe, oGt, oGe, oAddI', oAddL, oMulI', oAdd, oMul, eNeg, oIsN, oNotN, oIx, atK, mNo, mPart, eSl, eCB, oLen, oInt, oSumL, oMax2, oMin2, oMax1, oMin1, oList, oBls, eCall, eBM, eBM0, isLs, oApp, oPop, oExt, lsOf, tTru, sNext, sSeq, sDrop, sRet, sRetN, sIf, sBreak, sCont, sNever, gN, gNil, gCons, gTup, setT, gSub, sAsg, sPar, sAug, oIxL, sAugS, oAddI, sFor, eLc, iSeq, iRange1, iRange2, iEnum, tYes, oIsi, kdOf, oEq, oNe, eqT_int, eqT_nn, eqT_in, eqT_ni,   atI_0, atI_1, atI_2, atI_3, atI_4, atI_5, atI_6, atI_7, atI_8, atI_m1, ixN_0, ixN_1,   kdN_int, kdN_bool, kdN_str, kdN_list, kdN_tuple, isK, view_int, view_non, dep_int, dep_non, cN, cN2, wipeT,   mk_true, mk_false, put_same, put_put,   List.map_cons, List.map_nil, List.length_cons, List.length_nil, List.replicate, List.cons_append, List.nil_append, List.append_nil, List.set_cons_zero, List.set_cons_succ, List.getElem?_cons_zero, List.getElem?_cons_succ, List.getElem?_nil, Nat.reduceAdd, Nat.reduceSub, Nat.reduceLeDiff, Nat.reduceLT, Nat.reduceEqDiff, Option.isSome_some, Option.isSome_none, true_and, and_true, if_true, if_false, Bool.false_eq_true, Bool.not_true, Bool.not_false, reduceCtorEq, Nat.zero_add, Nat.zero_le, decide_eq_true_eq, Bool.not_eq_true', decide_eq_false_iff_not, ite_true, ite_false, Bool.if_false_right, Bool.if_true_left, decide_true, decide_false, Bool.true_or, Bool.or_true, Bool.false_or, Bool.or_false, Bool.true_and, Bool.and_true, Bool.false_and, Bool.and_false, List.length_map, not_true_eq_false, not_false_eq_true, false_and, and_false, bne_self_eq_false, Bool.not_eq_false])
        refine ⟨.inr (.inl (by decide)), ?_⟩
        by_cases c3 : (if f' > f then f' else f) * 9 < r
        · have c9 : f * 9 < r ∧ f' * 9 < r := by
            split at c3 <;> omega
          (try simp only [c3, lim, oOwn, oIsiC, view_bl, dep_bl, eqT_tt, eqT_ff, eqT_tf, eqT_ft, eDIn, eDGet, eDNew, eDc, keyT, eMakeX, eCallK, eRev, oRepr, eMeth, eProp, eFld, eMake, sRaise, sPar3, ends, startT, eVar, eC, eOp, tOf, eChain, tAndM, tOrM, tNotM, eAndV, eOrV, eNotV, eIf, aNil, aCons, eTup, eLst, eFrz, frzK, oI, oIC, oSub, oMod, oDiv, oPow, oLt, oLe, oGt, oGe, oAddI', oAddL, oMulI', oAdd, oMul, eNeg, oIsN, oNotN, oIx, atK, mNo, mPart, eSl, eCB, oLen, oInt, oSumL, oMax2, oMin2, oMax1, oMin1, oList, oBls, eCall, eBM, eBM0, isLs, oApp, oPop, oExt, lsOf, tTru, sNext, sSeq, sDrop, sRet, sRetN, sIf, sBreak, sCont, sNever, gN, gNil, gCons, gTup, setT, gSub, sAsg, sPar, sAug, oIxL, sAugS, oAddI, sFor, eLc, iSeq, iRange1, iRange2, iEnum, tYes, oIsi, kdOf, oEq, oNe, eqT_int, eqT_nn, eqT_in, eqT_ni,   atI_0, atI_1, atI_2, atI_3, atI_4, atI_5, atI_6, atI_7, atI_8, atI_m1, ixN_0, ixN_1,   kdN_int, kdN_bool, kdN_str, kdN_list, kdN_tuple, isK, view_int, view_non, dep_int, dep_non, cN, cN2, wipeT,   mk_true, mk_false, put_same, put_put,   List.map_cons, List.map_nil, List.length_cons, List.length_nil, List.replicate, List.cons_append, List.nil_append, List.append_nil, List.set_cons_zero, List.set_cons_succ, List.getElem?_cons_zero, List.getElem?_cons_succ, List.getElem?_nil, Nat.reduceAdd, Nat.reduceSub, Nat.reduceLeDiff, Nat.reduceLT, Nat.reduceEqDiff, Option.isSome_some, Option.isSome_none, true_and, and_true, if_true, if_false, Bool.false_eq_true, Bool.not_true, Bool.not_false, reduceCtorEq, Nat.zero_add, Nat.zero_le, decide_eq_true_eq, Bool.not_eq_true', decide_eq_false_iff_not, ite_true, ite_false, Bool.if_false_right, Bool.if_true_left, decide_true, decide_false, Bool.true_or, Bool.or_true, Bool.false_or, Bool.or_false, Bool.true_and, Bool.and_true, Bool.false_and, Bool.and_false, List.length_map, not_true_eq_false, not_false_eq_true, false_and, and_false, bne_self_eq_false, Bool.not_eq_false])
          by_cases c4 : r < 10 ^ 9
          · (try simp only [c4, lim, oOwn, oIsiC, view_bl, dep_bl, eqT_tt, eqT_ff, eqT_tf, eqT_ft, eDIn, eDGet, eDNew, eDc, keyT, eMakeX, eCallK, eRev, oRepr, eMeth, eProp, eFld, eMake, sRaise, sPar3, ends, startT, eVar, eC, eOp, tOf, eChain, tAndM, tOrM, tNotM, eAndV, eOrV, eNotV, eIf, aNil, aCons, eTup, eLst, eFrz, frzK, oI, oIC, oSub, oMod, oDiv, oPow, oLt, oLe, oGt, oGe, oAddI', oAddL, oMulI', oAdd, oMul, eNeg, oIsN, oNotN, oIx, atK, mNo, mPart, eSl, eCB, oLen, oInt, oSumL, oMax2, oMin2, oMax1, oMin1, oList, oBls, eCall, eBM, eBM0, isLs, oApp, oPop, oExt, lsOf, tTru, sNext, sSeq, sDrop, sRet, sRetN, sIf, sBreak, sCont, sNever, gN, gNil, gCons, gTup, setT, gSub, sAsg, sPar, sAug, oIxL, sAugS, oAddI, sFor, eLc, iSeq, iRange1, iRange2, iEnum, tYes, oIsi, kdOf, oEq, oNe, eqT_int, eqT_nn, eqT_in, eqT_ni,   atI_0, atI_1, atI_2, atI_3, atI_4, atI_5, atI_6, atI_7, atI_8, atI_m1, ixN_0, ixN_1,   kdN_int, kdN_bool, kdN_str, kdN_list, kdN_tuple, isK, view_int, view_non, dep_int, dep_non, cN, cN2, wipeT,   mk_true, mk_false, put_same, put_put,   List.map_cons, List.map_nil, List.length_cons, List.length_nil, List.replicate, List.cons_append, List.nil_append, List.append_nil, List.set_cons_zero, List.set_cons_succ, List.getElem?_cons_zero, List.getElem?_cons_succ, List.getElem?_nil, Nat.reduceAdd, Nat.reduceSub, Nat.reduceLeDiff, Nat.reduceLT, Nat.reduceEqDiff, Option.isSome_some, Option.isSome_none, true_and, and_true, if_true, if_false, Bool.false_eq_true, Bool.not_true, Bool.not_false, reduceCtorEq, Nat.zero_add, Nat.zero_le, decide_eq_true_eq, Bool.not_eq_true', decide_eq_false_iff_not, ite_true, ite_false, Bool.if_false_right, Bool.if_true_left, decide_true, decide_false, Bool.true_or, Bool.or_true, Bool.false_or, Bool.or_false, Bool.true_and, Bool.and_true, Bool.false_and, Bool.and_false, List.length_map, not_true_eq_false, not_false_eq_true, false_and, and_false, bne_self_eq_false, Bool.not_eq_false])
            exact dn_self q
          · (try simp only [c4, C_law_made, lim, oOwn, oIsiC, view_bl, dep_bl, eqT_tt, eqT_ff, eqT_tf, eqT_ft, eDIn, eDGet, eDNew, eDc, keyT, eMakeX, eCallK, eRev, oRepr, eMeth, eProp, eFld, eMake, sRaise, sPar3, ends, startT, eVar, eC, eOp, tOf, eChain, tAndM, tOrM, tNotM, eAndV, eOrV, eNotV, eIf, aNil, aCons, eTup, eLst, eFrz, frzK, oI, oIC, oSub, oMod, oDiv, oPow, oLt, oLe, oGt, oGe, oAddI', oAddL, oMulI', oAdd, oMul, eNeg, oIsN, oNotN, oIx, atK, mNo, mPart, eSl, eCB, oLen, oInt, oSumL, oMax2, oMin2, oMax1, oMin1, oList, oBls, eCall, eBM, eBM0, isLs, oApp, oPop, oExt, lsOf, tTru, sNext, sSeq, sDrop, sRet, sRetN, sIf, sBreak, sCont, sNever, gN, gNil, gCons, gTup, setT, gSub, sAsg, sPar, sAug, oIxL, sAugS, oAddI, sFor, eLc, iSeq, iRange1, iRange2, iEnum, tYes, oIsi, kdOf, oEq, oNe, eqT_int, eqT_nn, eqT_in, eqT_ni,   atI_0, atI_1, atI_2, atI_3, atI_4, atI_5, atI_6, atI_7, atI_8, atI_m1, ixN_0, ixN_1,   kdN_int, kdN_bool, kdN_str, kdN_list, kdN_tuple, isK, view_int, view_non, dep_int, dep_non, cN, cN2, wipeT,   mk_true, mk_false, put_same, put_put,   List.map_cons, List.map_nil, List.length_cons, List.length_nil, List.replicate, List.cons_append, List.nil_append, List.append_nil, List.set_cons_zero, List.set_cons_succ, List.getElem?_cons_zero, List.getElem?_cons_succ, List.getElem?_nil, Nat.reduceAdd, Nat.reduceSub, Nat.reduceLeDiff, Nat.reduceLT, Nat.reduceEqDiff, Option.isSome_some, Option.isSome_none, true_and, and_true, if_true, if_false, Bool.false_eq_true, Bool.not_true, Bool.not_false, reduceCtorEq, Nat.zero_add, Nat.zero_le, decide_eq_true_eq, Bool.not_eq_true', decide_eq_false_iff_not, ite_true, ite_false, Bool.if_false_right, Bool.if_true_left, decide_true, decide_false, Bool.true_or, Bool.or_true, Bool.false_or, Bool.or_false, Bool.true_and, Bool.and_true, Bool.false_and, Bool.and_false, List.length_map, not_true_eq_false, not_false_eq_true, false_and, and_false, bne_self_eq_false, Bool.not_eq_false])
            refine ⟨f, r, t, b, rfl, o, fun p4 np4 => ?_⟩
            (try simp only [del_put np4, lim, oOwn, oIsiC, view_bl, dep_bl, eqT_tt, eqT_ff, eqT_tf, eqT_ft, eDIn, eDGet, eDNew, eDc, keyT, eMakeX, eCallK, eRev, oRepr, eMeth, eProp, eFld, eMake, sRaise, sPar3, ends, startT, eVar, eC, eOp, tOf, eChain, tAndM, tOrM, tNotM, eAndV, eOrV, eNotV, eIf, aNil, aCons, eTup, eLst, eFrz, frzK, oI, oIC, oSub, oMod, oDiv, oPow, oLt, oLe, oGt, oGe, oAddI', oAddL, oMulI', oAdd, oMul, eNeg, oIsN, oNotN, oIx, atK, mNo, mPart, eSl, eCB, oLen, oInt, oSumL, oMax2, oMin2, oMax1, oMin1, oList, oBls, eCall, eBM, eBM0, isLs, oApp, oPop, oExt, lsOf, tTru, sNext, sSeq, sDrop, sRet, sRetN, sIf, sBreak, sCont, sNever, gN, gNil, gCons, gTup, setT, gSub, sAsg, sPar, sAug, oIxL, sAugS, oAddI, sFor, eLc, iSeq, iRange1, iRange2, iEnum, tYes, oIsi, kdOf, oEq, oNe, eqT_int, eqT_nn, eqT_in, eqT_ni,   atI_0, atI_1, atI_2, atI_3, atI_4, atI_5, atI_6, atI_7, atI_8, atI_m1, ixN_0, ixN_1,   kdN_int, kdN_bool, kdN_str, kdN_list, kdN_tuple, isK, view_int, view_non, dep_int, dep_non, cN, cN2, wipeT,   mk_true, mk_false, put_same, put_put,   List.map_cons, List.map_nil, List.length_cons, List.length_nil, List.replicate, List.cons_append, List.nil_append, List.append_nil, List.set_cons_zero, List.set_cons_succ, List.getElem?_cons_zero, List.getElem?_cons_succ, List.getElem?_nil, Nat.reduceAdd, Nat.reduceSub, Nat.reduceLeDiff, Nat.reduceLT, Nat.reduceEqDiff, Option.isSome_some, Option.isSome_none, true_and, and_true, if_true, if_false, Bool.false_eq_true, Bool.not_true, Bool.not_false, reduceCtorEq, Nat.zero_add, Nat.zero_le, decide_eq_true_eq, Bool.not_eq_true', decide_eq_false_iff_not, ite_true, ite_false, Bool.if_false_right, Bool.if_true_left, decide_true, decide_false, Bool.true_or, Bool.or_true, Bool.false_or, Bool.or_false, Bool.true_and, Bool.and_true, Bool.false_and, Bool.and_false, List.length_map, not_true_eq_false, not_false_eq_true, false_and, and_false, bne_self_eq_false, Bool.not_eq_false])
            refine ⟨f', r, t', b', rfl, o', fun p5 np5 => ?_⟩
            (try simp only [del_put np5, insOf, C_Book___le__, lim, oOwn, oIsiC, view_bl, dep_bl, eqT_tt, eqT_ff, eqT_tf, eqT_ft, eDIn, eDGet, eDNew, eDc, keyT, eMakeX, eCallK, eRev, oRepr, eMeth, eProp, eFld, eMake, sRaise, sPar3, ends, startT, eVar, eC, eOp, tOf, eChain, tAndM, tOrM, tNotM, eAndV, eOrV, eNotV, eIf, aNil, aCons, eTup, eLst, eFrz, frzK, oI, oIC, oSub, oMod, oDiv, oPow, oLt, oLe, oGt, oGe, oAddI', oAddL, oMulI', oAdd, oMul, eNeg, oIsN, oNotN, oIx, atK, mNo, mPart, eSl, eCB, oLen, oInt, oSumL, oMax2, oMin2, oMax1, oMin1, oList, oBls, eCall, eBM, eBM0, isLs, oApp, oPop, oExt, lsOf, tTru, sNext, sSeq, sDrop, sRet, sRetN, sIf, sBreak, sCont, sNever, gN, gNil, gCons, gTup, setT, gSub, sAsg, sPar, sAug, oIxL, sAugS, oAddI, sFor, eLc, iSeq, iRange1, iRange2, iEnum, tYes, oIsi, kdOf, oEq, oNe, eqT_int, eqT_nn, eqT_in, eqT_ni,   atI_0, atI_1, atI_2, atI_3, atI_4, atI_5, atI_6, atI_7, atI_8, atI_m1, ixN_0, ixN_1,   kdN_int, kdN_bool, kdN_str, kdN_list, kdN_tuple, isK, view_int, view_non, dep_int, dep_non, cN, cN2, wipeT,   mk_true, mk_false, put_same, put_put,   List.map_cons, List.map_nil, List.length_cons, List.length_nil, List.replicate, List.cons_append, List.nil_append, List.append_nil, List.set_cons_zero, List.set_cons_succ, List.getElem?_cons_zero, List.getElem?_cons_succ, List.getElem?_nil, Nat.reduceAdd, Nat.reduceSub, Nat.reduceLeDiff, Nat.reduceLT, Nat.reduceEqDiff, Option.isSome_some, Option.isSome_none, true_and, and_true, if_true, if_false, Bool.false_eq_true, Bool.not_true, Bool.not_false, reduceCtorEq, Nat.zero_add, Nat.zero_le, decide_eq_true_eq, Bool.not_eq_true', decide_eq_false_iff_not, ite_true, ite_false, Bool.if_false_right, Bool.if_true_left, decide_true, decide_false, Bool.true_or, Bool.or_true, Bool.false_or, Bool.or_false, Bool.true_and, Bool.and_true, Bool.false_and, Bool.and_false, List.length_map, not_true_eq_false, not_false_eq_true, false_and, and_false, bne_self_eq_false, Bool.not_eq_false])
            refine ⟨_, _, f, r, t, b, f', r, t', b', rfl, rfl, rfl, o, o', fun w hw => ?_⟩
            cases w with
            | true => exact absurd (hw.mp rfl) (GB.not_le_great o o' c1 rfl c9 (by omega))
            | false => exact dn_self q
        · (try simp only [c3, lim, oOwn, oIsiC, view_bl, dep_bl, eqT_tt, eqT_ff, eqT_tf, eqT_ft, eDIn, eDGet, eDNew, eDc, keyT, eMakeX, eCallK, eRev, oRepr, eMeth, eProp, eFld, eMake, sRaise, sPar3, ends, startT, eVar, eC, eOp, tOf, eChain, tAndM, tOrM, tNotM, eAndV, eOrV, eNotV, eIf, aNil, aCons, eTup, eLst, eFrz, frzK, oI, oIC, oSub, oMod, oDiv, oPow, oLt, oLe, oGt, oGe, oAddI', oAddL, oMulI', oAdd, oMul, eNeg, oIsN, oNotN, oIx, atK, mNo, mPart, eSl, eCB, oLen, oInt, oSumL, oMax2, oMin2, oMax1, oMin1, oList, oBls, eCall, eBM, eBM0, isLs, oApp, oPop, oExt, lsOf, tTru, sNext, sSeq, sDrop, sRet, sRetN, sIf, sBreak, sCont, sNever, gN, gNil, gCons, gTup, setT, gSub, sAsg, sPar, sAug, oIxL, sAugS, oAddI, sFor, eLc, iSeq, iRange1, iRange2, iEnum, tYes, oIsi, kdOf, oEq, oNe, eqT_int, eqT_nn, eqT_in, eqT_ni,   atI_0, atI_1, atI_2, atI_3, atI_4, atI_5, atI_6, atI_7, atI_8, atI_m1, ixN_0, ixN_1,   kdN_int, kdN_bool, kdN_str, kdN_list, kdN_tuple, isK, view_int, view_non, dep_int, dep_non, cN, cN2, wipeT,   mk_true, mk_false, put_same, put_put,   List.map_cons, List.map_nil, List.length_cons, List.length_nil, List.replicate, List.cons_append, List.nil_append, List.append_nil, List.set_cons_zero, List.set_cons_succ, List.getElem?_cons_zero, List.getElem?_cons_succ, List.getElem?_nil, Nat.reduceAdd, Nat.reduceSub, Nat.reduceLeDiff, Nat.reduceLT, Nat.reduceEqDiff, Option.isSome_some, Option.isSome_none, true_and, and_true, if_true, if_false, Bool.false_eq_true, Bool.not_true, Bool.not_false, reduceCtorEq, Nat.zero_add, Nat.zero_le, decide_eq_true_eq, Bool.not_eq_true', decide_eq_false_iff_not, ite_true, ite_false, Bool.if_false_right, Bool.if_true_left, decide_true, decide_false, Bool.true_or, Bool.or_true, Bool.false_or, Bool.or_false, Bool.true_and, Bool.and_true, Bool.false_and, Bool.and_false, List.length_map, not_true_eq_false, not_false_eq_true, false_and, and_false, bne_self_eq_false, Bool.not_eq_false])
          refine kN _ _ ?_
          (try simp only [ends, lim, oOwn, oIsiC, view_bl, dep_bl, eqT_tt, eqT_ff, eqT_tf, eqT_ft, eDIn, eDGet, eDNew, eDc, keyT, eMakeX, eCallK, eRev, oRepr, eMeth, eProp, eFld, eMake, sRaise, sPar3, ends, startT, eVar, eC, eOp, tOf, eChain, tAndM, tOrM, tNotM, eAndV, eOrV, eNotV, eIf, aNil, aCons, eTup, eLst, eFrz, frzK, oI, oIC, oSub, oMod, oDiv, oPow, oLt, oLe, oGt, oGe, oAddI', oAddL, oMulI', oAdd, oMul, eNeg, oIsN, oNotN, oIx, atK, mNo, mPart, eSl, eCB, oLen, oInt, oSumL, oMax2, oMin2, oMax1, oMin1, oList, oBls, eCall, eBM, eBM0, isLs, oApp, oPop, oExt, lsOf, tTru, sNext, sSeq, sDrop, sRet, sRetN, sIf, sBreak, sCont, sNever, gN, gNil, gCons, gTup, setT, gSub, sAsg, sPar, sAug, oIxL, sAugS, oAddI, sFor, eLc, iSeq, iRange1, iRange2, iEnum, tYes, oIsi, kdOf, oEq, oNe, eqT_int, eqT_nn, eqT_in, eqT_ni,   atI_0, atI_1, atI_2, atI_3, atI_4, atI_5, atI_6, atI_7, atI_8, atI_m1, ixN_0, ixN_1,   kdN_int, kdN_bool, kdN_str, kdN_list, kdN_tuple, isK, view_int, view_non, dep_int, dep_non, cN, cN2, wipeT,   mk_true, mk_false, put_same, put_put,   List.map_cons, List.map_nil, List.length_cons, List.length_nil, List.replicate, List.cons_append, List.nil_append, List.append_nil, List.set_cons_zero, List.set_cons_succ, List.getElem?_cons_zero, List.getElem?_cons_succ, List.getElem?_nil, Nat.reduceAdd, Nat.reduceSub, Nat.reduceLeDiff, Nat.reduceLT, Nat.reduceEqDiff, Option.isSome_some, Option.isSome_none, true_and, and_true, if_true, if_false, Bool.false_eq_true, Bool.not_true, Bool.not_false, reduceCtorEq, Nat.zero_add, Nat.zero_le, decide_eq_true_eq, Bool.not_eq_true', decide_eq_false_iff_not, ite_true, ite_false, Bool.if_false_right, Bool.if_true_left, decide_true, decide_false, Bool.true_or, Bool.or_true, Bool.false_or, Bool.or_false, Bool.true_and, Bool.and_true, Bool.false_and, Bool.and_false, List.length_map, not_true_eq_false, not_false_eq_true, false_and, and_false, bne_self_eq_false, Bool.not_eq_false])
          exact dn_self q
      · (try simp only [c1, c2, eqT_int, lim, oOwn, oIsiC, view_bl, dep_bl, eqT_tt, eqT_ff, eqT_tf, eqT_ft, eDIn, eDGet, eDNew, eDc, keyT, eMakeX, eCallK, eRev, oRepr, eMeth, eProp, eFld, eMake, sRaise, sPar3, ends, startT, eVar, eC, eOp, tOf, eChain, tAndM, tOrM, tNotM, eAndV, eOrV, eNotV, eIf, aNil, aCons, eTup, eLst, eFrz, frzK, oI, oIC, oSub, oMod, oDiv, oPow, oLt, oLe, oGt, oGe, oAddI', oAddL, oMulI', oAdd, oMul, eNeg, oIsN, oNotN, oIx, atK, mNo, mPart, eSl, eCB, oLen, oInt, oSumL, oMax2, oMin2, oMax1, oMin1, oList, oBls, eCall, eBM, eBM0, isLs, oApp, oPop, oExt, lsOf, tTru, sNext, sSeq, sDrop, sRet, sRetN, sIf, sBreak, sCont, sNever, gN, gNil, gCons, gTup, setT, gSub, sAsg, sPar, sAug, oIxL, sAugS, oAddI, sFor, eLc, iSeq, iRange1, iRange2, iEnum, tYes, oIsi, kdOf, oEq, oNe, eqT_int, eqT_nn, eqT_in, eqT_ni,   atI_0, atI_1, atI_2, atI_3, atI_4, atI_5, atI_6, atI_7, atI_8, atI_m1, ixN_0, ixN_1,   kdN_int, kdN_bool, kdN_str, kdN_list, kdN_tuple, isK, view_int, view_non, dep_int, dep_non, cN, cN2, wipeT,   mk_true, mk_false, put_same, put_put,   List.map_cons, List.map_nil, List.length_cons, List.length_nil, List.replicate, List.cons_append, List.nil_append, List.append_nil, List.set_cons_zero, List.set_cons_succ, List.getElem?_cons_zero, List.getElem?_cons_succ, List.getElem?_nil, Nat.reduceAdd, Nat.reduceSub, Nat.reduceLeDiff, Nat.reduceLT, Nat.reduceEqDiff, Option.isSome_some, Option.isSome_none, true_and, and_true, if_true, if_false, Bool.false_eq_true, Bool.not_true, Bool.not_false, reduceCtorEq, Nat.zero_add, Nat.zero_le, decide_eq_true_eq, Bool.not_eq_true', decide_eq_false_iff_not, ite_true, ite_false, Bool.if_false_right, Bool.if_true_left, decide_true, decide_false, Bool.true_or, Bool.or_true, Bool.false_or, Bool.or_false, Bool.true_and, Bool.and_true, Bool.false_and, Bool.and_false, List.length_map, not_true_eq_false, not_false_eq_true, false_and, and_false, bne_self_eq_false, Bool.not_eq_false])
        refine kN _ _ ?_
        (try simp only [ends, lim, oOwn, oIsiC, view_bl, dep_bl, eqT_tt, eqT_ff, eqT_tf, eqT_ft, eDIn, eDGet, eDNew, eDc, keyT, eMakeX, eCallK, eRev, oRepr, eMeth, eProp, eFld, eMake, sRaise, sPar3, ends, startT, eVar, eC, eOp, tOf, eChain, tAndM, tOrM, tNotM, eAndV, eOrV, eNotV, eIf, aNil, aCons, eTup, eLst, eFrz, frzK, oI, oIC, oSub, oMod, oDiv, oPow, oLt, oLe, oGt, oGe, oAddI', oAddL, oMulI', oAdd, oMul, eNeg, oIsN, oNotN, oIx, atK, mNo, mPart, eSl, eCB, oLen, oInt, oSumL, oMax2, oMin2, oMax1, oMin1, oList, oBls, eCall, eBM, eBM0, isLs, oApp, oPop, oExt, lsOf, tTru, sNext, sSeq, sDrop, sRet, sRetN, sIf, sBreak, sCont, sNever, gN, gNil, gCons, gTup, setT, gSub, sAsg, sPar, sAug, oIxL, sAugS, oAddI, sFor, eLc, iSeq, iRange1, iRange2, iEnum, tYes, oIsi, kdOf, oEq, oNe, eqT_int, eqT_nn, eqT_in, eqT_ni,   atI_0, atI_1, atI_2, atI_3, atI_4, atI_5, atI_6, atI_7, atI_8, atI_m1, ixN_0, ixN_1,   kdN_int, kdN_bool, kdN_str, kdN_list, kdN_tuple, isK, view_int, view_non, dep_int, dep_non, cN, cN2, wipeT,   mk_true, mk_false, put_same, put_put,   List.map_cons, List.map_nil, List.length_cons, List.length_nil, List.replicate, List.cons_append, List.nil_append, List.append_nil, List.set_cons_zero, List.set_cons_succ, List.getElem?_cons_zero, List.getElem?_cons_succ, List.getElem?_nil, Nat.reduceAdd, Nat.reduceSub, Nat.reduceLeDiff, Nat.reduceLT, Nat.reduceEqDiff, Option.isSome_some, Option.isSome_none, true_and, and_true, if_true, if_false, Bool.false_eq_true, Bool.not_true, Bool.not_false, reduceCtorEq, Nat.zero_add, Nat.zero_le, decide_eq_true_eq, Bool.not_eq_true', decide_eq_false_iff_not, ite_true, ite_false, Bool.if_false_right, Bool.if_true_left, decide_true, decide_false, Bool.true_or, Bool.or_true, Bool.false_or, Bool.or_false, Bool.true_and, Bool.and_true, Bool.false_and, Bool.and_false, List.length_map, not_true_eq_false, not_false_eq_true, false_and, and_false, bne_self_eq_false, Bool.not_eq_false])
        exact dn_self q
    · (try simp only [c1, lim, oOwn, oIsiC, view_bl, dep_bl, eqT_tt, eqT_ff, eqT_tf, eqT_ft, eDIn, eDGet, eDNew, eDc, keyT, eMakeX, eCallK, eRev, oRepr, eMeth, eProp, eFld, eMake, sRaise, sPar3, ends, startT, eVar, eC, eOp, tOf, eChain, tAndM, tOrM, tNotM, eAndV, eOrV, eNotV, eIf, aNil, aCons, eTup, eLst, eFrz, frzK, oI, oIC, oSub, oMod, oDiv, oPow, oLt, oLe, oGt, oGe, oAddI', oAddL, oMulI', oAdd, oMul, eNeg, oIsN, oNotN, oIx, atK, mNo, mPart, eSl, eCB, oLen, oInt, oSumL, oMax2, oMin2, oMax1, oMin1, oList, oBls, eCall, eBM, eBM0, isLs, oApp, oPop, oExt, lsOf, tTru, sNext, sSeq, sDrop, sRet, sRetN, sIf, sBreak, sCont, sNever, gN, gNil, gCons, gTup, setT, gSub, sAsg, sPar, sAug, oIxL, sAugS, oAddI, sFor, eLc, iSeq, iRange1, iRange2, iEnum, tYes, oIsi, kdOf, oEq, oNe, eqT_int, eqT_nn, eqT_in, eqT_ni,   atI_0, atI_1, atI_2, atI_3, atI_4, atI_5, atI_6, atI_7, atI_8, atI_m1, ixN_0, ixN_1,   kdN_int, kdN_bool, kdN_str, kdN_list, kdN_tuple, isK, view_int, view_non, dep_int, dep_non, cN, cN2, wipeT,   mk_true, mk_false, put_same, put_put,   List.map_cons, List.map_nil, List.length_cons, List.length_nil, List.replicate, List.cons_append, List.nil_append, List.append_nil, List.set_cons_zero, List.set_cons_succ, List.getElem?_cons_zero, List.getElem?_cons_succ, List.getElem?_nil, Nat.reduceAdd, Nat.reduceSub, Nat.reduceLeDiff, Nat.reduceLT, Nat.reduceEqDiff, Option.isSome_some, Option.isSome_none, true_and, and_true, if_true, if_false, Bool.false_eq_true, Bool.not_true, Bool.not_false, reduceCtorEq, Nat.zero_add, Nat.zero_le, decide_eq_true_eq, Bool.not_eq_true', decide_eq_false_iff_not, ite_true, ite_false, Bool.if_false_right, Bool.if_true_left, decide_true, decide_false, Bool.true_or, Bool.or_true, Bool.false_or, Bool.or_false, Bool.true_and, Bool.and_true, Bool.false_and, Bool.and_false, List.length_map, not_true_eq_false, not_false_eq_true, false_and, and_false, bne_self_eq_false, Bool.not_eq_false])
      refine kN _ _ ?_
      (try simp only [ends, lim, oOwn, oIsiC, view_bl, dep_bl, eqT_tt, eqT_ff, eqT_tf, eqT_ft, eDIn, eDGet, eDNew, eDc, keyT, eMakeX, eCallK, eRev, oRepr, eMeth, eProp, eFld, eMake, sRaise, sPar3, ends, startT, eVar, eC, eOp, tOf, eChain, tAndM, tOrM, tNotM, eAndV, eOrV, eNotV, eIf, aNil, aCons, eTup, eLst, eFrz, frzK, oI, oIC, oSub, oMod, oDiv, oPow, oLt, oLe, oGt, oGe, oAddI', oAddL, oMulI', oAdd, oMul, eNeg, oIsN, oNotN, oIx, atK, mNo, mPart, eSl, eCB, oLen, oInt, oSumL, oMax2, oMin2, oMax1, oMin1, oList, oBls, eCall, eBM, eBM0, isLs, oApp, oPop, oExt, lsOf, tTru, sNext, sSeq, sDrop, sRet, sRetN, sIf, sBreak, sCont, sNever, gN, gNil, gCons, gTup, setT, gSub, sAsg, sPar, sAug, oIxL, sAugS, oAddI, sFor, eLc, iSeq, iRange1, iRange2, iEnum, tYes, oIsi, kdOf, oEq, oNe, eqT_int, eqT_nn, eqT_in, eqT_ni,   atI_0, atI_1, atI_2, atI_3, atI_4, atI_5, atI_6, atI_7, atI_8, atI_m1, ixN_0, ixN_1,   kdN_int, kdN_bool, kdN_str, kdN_list, kdN_tuple, isK, view_int, view_non, dep_int, dep_non, cN, cN2, wipeT,   mk_true, mk_false, put_same, put_put,   List.map_cons, List.map_nil, List.length_cons, List.length_nil, List.replicate, List.cons_append, List.nil_append, List.append_nil, List.set_cons_zero, List.set_cons_succ, List.getElem?_cons_zero, List.getElem?_cons_succ, List.getElem?_nil, Nat.reduceAdd, Nat.reduceSub, Nat.reduceLeDiff, Nat.reduceLT, Nat.reduceEqDiff, Option.isSome_some, Option.isSome_none, true_and, and_true, if_true, if_false, Bool.false_eq_true, Bool.not_true, Bool.not_false, reduceCtorEq, Nat.zero_add, Nat.zero_le, decide_eq_true_eq, Bool.not_eq_true', decide_eq_false_iff_not, ite_true, ite_false, Bool.if_false_right, Bool.if_true_left, decide_true, decide_false, Bool.true_or, Bool.or_true, Bool.false_or, Bool.or_false, Bool.true_and, Bool.and_true, Bool.false_and, Bool.and_false, List.length_map, not_true_eq_false, not_false_eq_true, false_and, and_false, bne_self_eq_false, Bool.not_eq_false])
      exact dn_self q
theorem bl_iff {w v : Bool} {P : Prop} (h1 : w = true ↔ P) (h2 : v = true ↔ P) : w = v := by
  cases w <;> cases v <;> first | rfl | exact h1.mpr (h2.mp rfl) | exact (h2.mpr (h1.mp rfl)).symm
theorem cells (ns : List Int) (m : Int) (h1 : 1 ≤ m) (h2 : m ≤ 63) : ∃ k : Nat, (k : Int) ≤ m ∧ (if (if m < (ns.length : Int) then m else (ns.length : Int)) > 1 then (if m < (ns.length : Int) then m else (ns.length : Int)) else 1) = (k : Int) := by
  refine ⟨(if (if m < (ns.length : Int) then m else (ns.length : Int)) > 1 then (if m < (ns.length : Int) then m else (ns.length : Int)) else 1).toNat, ?_, ?_⟩ <;> (split <;> split <;> omega)
theorem pl_law (Z : Tx K mg a) : ∀ ts h Q E, ts.length = 1 → C_law ts h Q E → B_law K a (ends Q E) (startT N_law.length ts) h := by
  rintro ts h Q E - ⟨ns, rfl, hn, q⟩
  unfold B_law
  obtain ⟨m, m8, em⟩ := cells ns 8 (by decide) (by decide)
  have m0 : (-1000000 : Int) ≤ (m : Int) := by omega
  have m1 : (m : Int) ≤ 1000000 := by omega
  refine seq_gen fun N kN => ?_
  (try simp only [em, m0, m1, Int.toNat_natCast, lim, oOwn, oIsiC, view_bl, dep_bl, eqT_tt, eqT_ff, eqT_tf, eqT_ft, eDIn, eDGet, eDNew, eDc, keyT, eMakeX, eCallK, eRev, oRepr, eMeth, eProp, eFld, eMake, sRaise, sPar3, ends, startT, eVar, eC, eOp, tOf, eChain, tAndM, tOrM, tNotM, eAndV, eOrV, eNotV, eIf, aNil, aCons, eTup, eLst, eFrz, frzK, oI, oIC, oSub, oMod, oDiv, oPow, oLt, oLe, oGt, oGe, oAddI', oAddL, oMulI', oAdd, oMul, eNeg, oIsN, oNotN, oIx, atK, mNo, mPart, eSl, eCB, oLen, oInt, oSumL, oMax2, oMin2, oMax1, oMin1, oList, oBls, eCall, eBM, eBM0, isLs, oApp, oPop, oExt, lsOf, tTru, sNext, sSeq, sDrop, sRet, sRetN, sIf, sBreak, sCont, sNever, gN, gNil, gCons, gTup, setT, gSub, sAsg, sPar, sAug, oIxL, sAugS, oAddI, sFor, eLc, iSeq, iRange1, iRange2, iEnum, tYes, oIsi, kdOf, oEq, oNe, eqT_int, eqT_nn, eqT_in, eqT_ni,   atI_0, atI_1, atI_2, atI_3, atI_4, atI_5, atI_6, atI_7, atI_8, atI_m1, ixN_0, ixN_1,   kdN_int, kdN_bool, kdN_str, kdN_list, kdN_tuple, isK, view_int, view_non, dep_int, dep_non, cN, cN2, wipeT,   mk_true, mk_false, put_same, put_put,   List.map_cons, List.map_nil, List.length_cons, List.length_nil, List.replicate, List.cons_append, List.nil_append, List.append_nil, List.set_cons_zero, List.set_cons_succ, List.getElem?_cons_zero, List.getElem?_cons_succ, List.getElem?_nil, Nat.reduceAdd, Nat.reduceSub, Nat.reduceLeDiff, Nat.reduceLT, Nat.reduceEqDiff, Option.isSome_some, Option.isSome_none, true_and, and_true, if_true, if_false, Bool.false_eq_true, Bool.not_true, Bool.not_false, reduceCtorEq, Nat.zero_add, Nat.zero_le, decide_eq_true_eq, Bool.not_eq_true', decide_eq_false_iff_not, ite_true, ite_false, Bool.if_false_right, Bool.if_true_left, decide_true, decide_false, Bool.true_or, Bool.or_true, Bool.false_or, Bool.or_false, Bool.true_and, Bool.and_true, Bool.false_and, Bool.and_false, List.length_map, not_true_eq_false, not_false_eq_true, false_and, and_false, bne_self_eq_false, Bool.not_eq_false])
  refine forK_go (fun i s h' => ∃ x1 x2 x3 x4 x5 x6 x7 x8 x9 x10, s = [some (.scr ns), x1, x2, x3, x4, x5, x6, x7, x8, x9, x10]) ⟨none, none, none, none, none, none, none, none, none, none, rfl⟩ ?_ ?_
  · rintro s h' ⟨x1, x2, x3, x4, x5, x6, x7, x8, x9, x10, rfl⟩
    refine ⟨trivial, kN _ _ ?_⟩
    (try simp only [ends, lim, oOwn, oIsiC, view_bl, dep_bl, eqT_tt, eqT_ff, eqT_tf, eqT_ft, eDIn, eDGet, eDNew, eDc, keyT, eMakeX, eCallK, eRev, oRepr, eMeth, eProp, eFld, eMake, sRaise, sPar3, ends, startT, eVar, eC, eOp, tOf, eChain, tAndM, tOrM, tNotM, eAndV, eOrV, eNotV, eIf, aNil, aCons, eTup, eLst, eFrz, frzK, oI, oIC, oSub, oMod, oDiv, oPow, oLt, oLe, oGt, oGe, oAddI', oAddL, oMulI', oAdd, oMul, eNeg, oIsN, oNotN, oIx, atK, mNo, mPart, eSl, eCB, oLen, oInt, oSumL, oMax2, oMin2, oMax1, oMin1, oList, oBls, eCall, eBM, eBM0, isLs, oApp, oPop, oExt, lsOf, tTru, sNext, sSeq, sDrop, sRet, sRetN, sIf, sBreak, sCont, sNever, gN, gNil, gCons, gTup, setT, gSub, sAsg, sPar, sAug, oIxL, sAugS, oAddI, sFor, eLc, iSeq, iRange1, iRange2, iEnum, tYes, oIsi, kdOf, oEq, oNe, eqT_int, eqT_nn, eqT_in, eqT_ni,   atI_0, atI_1, atI_2, atI_3, atI_4, atI_5, atI_6, atI_7, atI_8, atI_m1, ixN_0, ixN_1,   kdN_int, kdN_bool, kdN_str, kdN_list, kdN_tuple, isK, view_int, view_non, dep_int, dep_non, cN, cN2, wipeT,   mk_true, mk_false, put_same, put_put,   List.map_cons, List.map_nil, List.length_cons, List.length_nil, List.replicate, List.cons_append, List.nil_append, List.append_nil, List.set_cons_zero, List.set_cons_succ, List.getElem?_cons_zero, List.getElem?_cons_succ, List.getElem?_nil, Nat.reduceAdd, Nat.reduceSub, Nat.reduceLeDiff, Nat.reduceLT, Nat.reduceEqDiff, Option.isSome_some, Option.isSome_none, true_and, and_true, if_true, if_false, Bool.false_eq_true, Bool.not_true, Bool.not_false, reduceCtorEq, Nat.zero_add, Nat.zero_le, decide_eq_true_eq, Bool.not_eq_true', decide_eq_false_iff_not, ite_true, ite_false, Bool.if_false_right, Bool.if_true_left, decide_true, decide_false, Bool.true_or, Bool.or_true, Bool.false_or, Bool.or_false, Bool.true_and, Bool.and_true, Bool.false_and, Bool.and_false, List.length_map, not_true_eq_false, not_false_eq_true, false_and, and_false, bne_self_eq_false, Bool.not_eq_false])
    exact dn_self (q _)
  clear kN
  rintro k t s h' ek ⟨x1, x2, x3, x4, x5, x6, x7, x8, x9, x10, rfl⟩
  obtain ⟨hk, rfl⟩ := rng_at ek
  refine ⟨trivial, gN_go ?_⟩
  refine seq_gen fun N kN => ?_
  (try simp only [CHand, lim, oOwn, oIsiC, view_bl, dep_bl, eqT_tt, eqT_ff, eqT_tf, eqT_ft, eDIn, eDGet, eDNew, eDc, keyT, eMakeX, eCallK, eRev, oRepr, eMeth, eProp, eFld, eMake, sRaise, sPar3, ends, startT, eVar, eC, eOp, tOf, eChain, tAndM, tOrM, tNotM, eAndV, eOrV, eNotV, eIf, aNil, aCons, eTup, eLst, eFrz, frzK, oI, oIC, oSub, oMod, oDiv, oPow, oLt, oLe, oGt, oGe, oAddI', oAddL, oMulI', oAdd, oMul, eNeg, oIsN, oNotN, oIx, atK, mNo, mPart, eSl, eCB, oLen, oInt, oSumL, oMax2, oMin2, oMax1, oMin1, oList, oBls, eCall, eBM, eBM0, isLs, oApp, oPop, oExt, lsOf, tTru, sNext, sSeq, sDrop, sRet, sRetN, sIf, sBreak, sCont, sNever, gN, gNil, gCons, gTup, setT, gSub, sAsg, sPar, sAug, oIxL, sAugS, oAddI, sFor, eLc, iSeq, iRange1, iRange2, iEnum, tYes, oIsi, kdOf, oEq, oNe, eqT_int, eqT_nn, eqT_in, eqT_ni,   atI_0, atI_1, atI_2, atI_3, atI_4, atI_5, atI_6, atI_7, atI_8, atI_m1, ixN_0, ixN_1,   kdN_int, kdN_bool, kdN_str, kdN_list, kdN_tuple, isK, view_int, view_non, dep_int, dep_non, cN, cN2, wipeT,   mk_true, mk_false, put_same, put_put,   List.map_cons, List.map_nil, List.length_cons, List.length_nil, List.replicate, List.cons_append, List.nil_append, List.append_nil, List.set_cons_zero, List.set_cons_succ, List.getElem?_cons_zero, List.getElem?_cons_succ, List.getElem?_nil, Nat.reduceAdd, Nat.reduceSub, Nat.reduceLeDiff, Nat.reduceLT, Nat.reduceEqDiff, Option.isSome_some, Option.isSome_none, true_and, and_true, if_true, if_false, Bool.false_eq_true, Bool.not_true, Bool.not_false, reduceCtorEq, Nat.zero_add, Nat.zero_le, decide_eq_true_eq, Bool.not_eq_true', decide_eq_false_iff_not, ite_true, ite_false, Bool.if_false_right, Bool.if_true_left, decide_true, decide_false, Bool.true_or, Bool.or_true, Bool.false_or, Bool.or_false, Bool.true_and, Bool.and_true, Bool.false_and, Bool.and_false, List.length_map, not_true_eq_false, not_false_eq_true, false_and, and_false, bne_self_eq_false, Bool.not_eq_false])
  refine ⟨ns, _, rfl, by omega, by omega, hn, fun p np => kN _ _ ?_⟩
  clear kN N
  have e3 : Int.toNat 3 = 3 := rfl
  generalize hg : put h' p .pool = g
  have gp : g p = some .pool := by rw [← hg]; exact put_same
  clear hg
  (try simp only [e3, lim, oOwn, oIsiC, view_bl, dep_bl, eqT_tt, eqT_ff, eqT_tf, eqT_ft, eDIn, eDGet, eDNew, eDc, keyT, eMakeX, eCallK, eRev, oRepr, eMeth, eProp, eFld, eMake, sRaise, sPar3, ends, startT, eVar, eC, eOp, tOf, eChain, tAndM, tOrM, tNotM, eAndV, eOrV, eNotV, eIf, aNil, aCons, eTup, eLst, eFrz, frzK, oI, oIC, oSub, oMod, oDiv, oPow, oLt, oLe, oGt, oGe, oAddI', oAddL, oMulI', oAdd, oMul, eNeg, oIsN, oNotN, oIx, atK, mNo, mPart, eSl, eCB, oLen, oInt, oSumL, oMax2, oMin2, oMax1, oMin1, oList, oBls, eCall, eBM, eBM0, isLs, oApp, oPop, oExt, lsOf, tTru, sNext, sSeq, sDrop, sRet, sRetN, sIf, sBreak, sCont, sNever, gN, gNil, gCons, gTup, setT, gSub, sAsg, sPar, sAug, oIxL, sAugS, oAddI, sFor, eLc, iSeq, iRange1, iRange2, iEnum, tYes, oIsi, kdOf, oEq, oNe, eqT_int, eqT_nn, eqT_in, eqT_ni,   atI_0, atI_1, atI_2, atI_3, atI_4, atI_5, atI_6, atI_7, atI_8, atI_m1, ixN_0, ixN_1,   kdN_int, kdN_bool, kdN_str, kdN_list, kdN_tuple, isK, view_int, view_non, dep_int, dep_non, cN, cN2, wipeT,   mk_true, mk_false, put_same, put_put,   List.map_cons, List.map_nil, List.length_cons, List.length_nil, List.replicate, List.cons_append, List.nil_append, List.append_nil, List.set_cons_zero, List.set_cons_succ, List.getElem?_cons_zero, List.getElem?_cons_succ, List.getElem?_nil, Nat.reduceAdd, Nat.reduceSub, Nat.reduceLeDiff, Nat.reduceLT, Nat.reduceEqDiff, Option.isSome_some, Option.isSome_none, true_and, and_true, if_true, if_false, Bool.false_eq_true, Bool.not_true, Bool.not_false, reduceCtorEq, Nat.zero_add, Nat.zero_le, decide_eq_true_eq, Bool.not_eq_true', decide_eq_false_iff_not, ite_true, ite_false, Bool.if_false_right, Bool.if_true_left, decide_true, decide_false, Bool.true_or, Bool.or_true, Bool.false_or, Bool.or_false, Bool.true_and, Bool.and_true, Bool.false_and, Bool.and_false, List.length_map, not_true_eq_false, not_false_eq_true, false_and, and_false, bne_self_eq_false, Bool.not_eq_false])
  refine ⟨by decide, by decide, ?_⟩
  refine forK_go (fun i s h'' => h'' = g ∧ ∃ x3 x4 x5 x6 x7 x8 x9 x10, s = [some (.scr ns), some (.int (0 + k)), some (.ref p), x3, x4, x5, x6, x7, x8, x9, x10]) ⟨rfl, _, _, _, _, _, _, _, _, rfl⟩ ?_ ?_
  · rintro s h'' ⟨rfl, y3, y4, y5, y6, y7, y8, y9, y10, rfl⟩
    exact ⟨trivial, _, _, _, _, _, _, _, _, _, _, rfl⟩
  rintro i z s h'' ei ⟨rfl, y3, y4, y5, y6, y7, y8, y9, y10, rfl⟩
  obtain ⟨hi, rfl⟩ := rng_at ei
  refine ⟨trivial, gN_go ?_⟩
  refine seq_gen fun N kN => ?_
  (try simp only [C_law_small, lim, oOwn, oIsiC, view_bl, dep_bl, eqT_tt, eqT_ff, eqT_tf, eqT_ft, eDIn, eDGet, eDNew, eDc, keyT, eMakeX, eCallK, eRev, oRepr, eMeth, eProp, eFld, eMake, sRaise, sPar3, ends, startT, eVar, eC, eOp, tOf, eChain, tAndM, tOrM, tNotM, eAndV, eOrV, eNotV, eIf, aNil, aCons, eTup, eLst, eFrz, frzK, oI, oIC, oSub, oMod, oDiv, oPow, oLt, oLe, oGt, oGe, oAddI', oAddL, oMulI', oAdd, oMul, eNeg, oIsN, oNotN, oIx, atK, mNo, mPart, eSl, eCB, oLen, oInt, oSumL, oMax2, oMin2, oMax1, oMin1, oList, oBls, eCall, eBM, eBM0, isLs, oApp, oPop, oExt, lsOf, tTru, sNext, sSeq, sDrop, sRet, sRetN, sIf, sBreak, sCont, sNever, gN, gNil, gCons, gTup, setT, gSub, sAsg, sPar, sAug, oIxL, sAugS, oAddI, sFor, eLc, iSeq, iRange1, iRange2, iEnum, tYes, oIsi, kdOf, oEq, oNe, eqT_int, eqT_nn, eqT_in, eqT_ni,   atI_0, atI_1, atI_2, atI_3, atI_4, atI_5, atI_6, atI_7, atI_8, atI_m1, ixN_0, ixN_1,   kdN_int, kdN_bool, kdN_str, kdN_list, kdN_tuple, isK, view_int, view_non, dep_int, dep_non, cN, cN2, wipeT,   mk_true, mk_false, put_same, put_put,   List.map_cons, List.map_nil, List.length_cons, List.length_nil, List.replicate, List.cons_append, List.nil_append, List.append_nil, List.set_cons_zero, List.set_cons_succ, List.getElem?_cons_zero, List.getElem?_cons_succ, List.getElem?_nil, Nat.reduceAdd, Nat.reduceSub, Nat.reduceLeDiff, Nat.reduceLT, Nat.reduceEqDiff, Option.isSome_some, Option.isSome_none, true_and, and_true, if_true, if_false, Bool.false_eq_true, Bool.not_true, Bool.not_false, reduceCtorEq, Nat.zero_add, Nat.zero_le, decide_eq_true_eq, Bool.not_eq_true', decide_eq_false_iff_not, ite_true, ite_false, Bool.if_false_right, Bool.if_true_left, decide_true, decide_false, Bool.true_or, Bool.or_true, Bool.false_or, Bool.or_false, Bool.true_and, Bool.and_true, Bool.false_and, Bool.and_false, List.length_map, not_true_eq_false, not_false_eq_true, false_and, and_false, bne_self_eq_false, Bool.not_eq_false])
  refine ⟨p, rfl, gp, fun f r t b o r13 b9 => ?_⟩
  (try simp only [C_law_small, ptT, shT, lim, oOwn, oIsiC, view_bl, dep_bl, eqT_tt, eqT_ff, eqT_tf, eqT_ft, eDIn, eDGet, eDNew, eDc, keyT, eMakeX, eCallK, eRev, oRepr, eMeth, eProp, eFld, eMake, sRaise, sPar3, ends, startT, eVar, eC, eOp, tOf, eChain, tAndM, tOrM, tNotM, eAndV, eOrV, eNotV, eIf, aNil, aCons, eTup, eLst, eFrz, frzK, oI, oIC, oSub, oMod, oDiv, oPow, oLt, oLe, oGt, oGe, oAddI', oAddL, oMulI', oAdd, oMul, eNeg, oIsN, oNotN, oIx, atK, mNo, mPart, eSl, eCB, oLen, oInt, oSumL, oMax2, oMin2, oMax1, oMin1, oList, oBls, eCall, eBM, eBM0, isLs, oApp, oPop, oExt, lsOf, tTru, sNext, sSeq, sDrop, sRet, sRetN, sIf, sBreak, sCont, sNever, gN, gNil, gCons, gTup, setT, gSub, sAsg, sPar, sAug, oIxL, sAugS, oAddI, sFor, eLc, iSeq, iRange1, iRange2, iEnum, tYes, oIsi, kdOf, oEq, oNe, eqT_int, eqT_nn, eqT_in, eqT_ni,   atI_0, atI_1, atI_2, atI_3, atI_4, atI_5, atI_6, atI_7, atI_8, atI_m1, ixN_0, ixN_1,   kdN_int, kdN_bool, kdN_str, kdN_list, kdN_tuple, isK, view_int, view_non, dep_int, dep_non, cN, cN2, wipeT,   mk_true, mk_false, put_same, put_put,   List.map_cons, List.map_nil, List.length_cons, List.length_nil, List.replicate, List.cons_append, List.nil_append, List.append_nil, List.set_cons_zero, List.set_cons_succ, List.getElem?_cons_zero, List.getElem?_cons_succ, List.getElem?_nil, Nat.reduceAdd, Nat.reduceSub, Nat.reduceLeDiff, Nat.reduceLT, Nat.reduceEqDiff, Option.isSome_some, Option.isSome_none, true_and, and_true, if_true, if_false, Bool.false_eq_true, Bool.not_true, Bool.not_false, reduceCtorEq, Nat.zero_add, Nat.zero_le, decide_eq_true_eq, Bool.not_eq_true', decide_eq_false_iff_not, ite_true, ite_false, Bool.if_false_right, Bool.if_true_left, decide_true, decide_false, Bool.true_or, Bool.or_true, Bool.false_or, Bool.or_false, Bool.true_and, Bool.and_true, Bool.false_and, Bool.and_false, List.length_map, not_true_eq_false, not_false_eq_true, false_and, and_false, bne_self_eq_false, Bool.not_eq_false])
  refine ⟨p, rfl, gp, fun f' r' t' b' o' r13' b9' => ?_⟩
  (try simp only [C_law_small, ptT, shT, lim, oOwn, oIsiC, view_bl, dep_bl, eqT_tt, eqT_ff, eqT_tf, eqT_ft, eDIn, eDGet, eDNew, eDc, keyT, eMakeX, eCallK, eRev, oRepr, eMeth, eProp, eFld, eMake, sRaise, sPar3, ends, startT, eVar, eC, eOp, tOf, eChain, tAndM, tOrM, tNotM, eAndV, eOrV, eNotV, eIf, aNil, aCons, eTup, eLst, eFrz, frzK, oI, oIC, oSub, oMod, oDiv, oPow, oLt, oLe, oGt, oGe, oAddI', oAddL, oMulI', oAdd, oMul, eNeg, oIsN, oNotN, oIx, atK, mNo, mPart, eSl, eCB, oLen, oInt, oSumL, oMax2, oMin2, oMax1, oMin1, oList, oBls, eCall, eBM, eBM0, isLs, oApp, oPop, oExt, lsOf, tTru, sNext, sSeq, sDrop, sRet, sRetN, sIf, sBreak, sCont, sNever, gN, gNil, gCons, gTup, setT, gSub, sAsg, sPar, sAug, oIxL, sAugS, oAddI, sFor, eLc, iSeq, iRange1, iRange2, iEnum, tYes, oIsi, kdOf, oEq, oNe, eqT_int, eqT_nn, eqT_in, eqT_ni,   atI_0, atI_1, atI_2, atI_3, atI_4, atI_5, atI_6, atI_7, atI_8, atI_m1, ixN_0, ixN_1,   kdN_int, kdN_bool, kdN_str, kdN_list, kdN_tuple, isK, view_int, view_non, dep_int, dep_non, cN, cN2, wipeT,   mk_true, mk_false, put_same, put_put,   List.map_cons, List.map_nil, List.length_cons, List.length_nil, List.replicate, List.cons_append, List.nil_append, List.append_nil, List.set_cons_zero, List.set_cons_succ, List.getElem?_cons_zero, List.getElem?_cons_succ, List.getElem?_nil, Nat.reduceAdd, Nat.reduceSub, Nat.reduceLeDiff, Nat.reduceLT, Nat.reduceEqDiff, Option.isSome_some, Option.isSome_none, true_and, and_true, if_true, if_false, Bool.false_eq_true, Bool.not_true, Bool.not_false, reduceCtorEq, Nat.zero_add, Nat.zero_le, decide_eq_true_eq, Bool.not_eq_true', decide_eq_false_iff_not, ite_true, ite_false, Bool.if_false_right, Bool.if_true_left, decide_true, decide_false, Bool.true_or, Bool.or_true, Bool.false_or, Bool.or_false, Bool.true_and, Bool.and_true, Bool.false_and, Bool.and_false, List.length_map, not_true_eq_false, not_false_eq_true, false_and, and_false, bne_self_eq_false, Bool.not_eq_false])
  refine kN _ _ ?_
  clear kN N
  refine seq_gen fun N kN => ?_
  (try simp only [C_law_made, lim, oOwn, oIsiC, view_bl, dep_bl, eqT_tt, eqT_ff, eqT_tf, eqT_ft, eDIn, eDGet, eDNew, eDc, keyT, eMakeX, eCallK, eRev, oRepr, eMeth, eProp, eFld, eMake, sRaise, sPar3, ends, startT, eVar, eC, eOp, tOf, eChain, tAndM, tOrM, tNotM, eAndV, eOrV, eNotV, eIf, aNil, aCons, eTup, eLst, eFrz, frzK, oI, oIC, oSub, oMod, oDiv, oPow, oLt, oLe, oGt, oGe, oAddI', oAddL, oMulI', oAdd, oMul, eNeg, oIsN, oNotN, oIx, atK, mNo, mPart, eSl, eCB, oLen, oInt, oSumL, oMax2, oMin2, oMax1, oMin1, oList, oBls, eCall, eBM, eBM0, isLs, oApp, oPop, oExt, lsOf, tTru, sNext, sSeq, sDrop, sRet, sRetN, sIf, sBreak, sCont, sNever, gN, gNil, gCons, gTup, setT, gSub, sAsg, sPar, sAug, oIxL, sAugS, oAddI, sFor, eLc, iSeq, iRange1, iRange2, iEnum, tYes, oIsi, kdOf, oEq, oNe, eqT_int, eqT_nn, eqT_in, eqT_ni,   atI_0, atI_1, atI_2, atI_3, atI_4, atI_5, atI_6, atI_7, atI_8, atI_m1, ixN_0, ixN_1,   kdN_int, kdN_bool, kdN_str, kdN_list, kdN_tuple, isK, view_int, view_non, dep_int, dep_non, cN, cN2, wipeT,   mk_true, mk_false, put_same, put_put,   List.map_cons, List.map_nil, List.length_cons, List.length_nil, List.replicate, List.cons_append, List.nil_append, List.append_nil, List.set_cons_zero, List.set_cons_succ, List.getElem?_cons_zero, List.getElem?_cons_succ, List.getElem?_nil, Nat.reduceAdd, Nat.reduceSub, Nat.reduceLeDiff, Nat.reduceLT, Nat.reduceEqDiff, Option.isSome_some, Option.isSome_none, true_and, and_true, if_true, if_false, Bool.false_eq_true, Bool.not_true, Bool.not_false, reduceCtorEq, Nat.zero_add, Nat.zero_le, decide_eq_true_eq, Bool.not_eq_true', decide_eq_false_iff_not, ite_true, ite_false, Bool.if_false_right, Bool.if_true_left, decide_true, decide_false, Bool.true_or, Bool.or_true, Bool.false_or, Bool.or_false, Bool.true_and, Bool.and_true, Bool.false_and, Bool.and_false, List.length_map, not_true_eq_false, not_false_eq_true, false_and, and_false, bne_self_eq_false, Bool.not_eq_false])
  refine ⟨f, r, t, b, rfl, o, fun p2 np2 => ?_⟩
  (try simp only [del_put np2, lim, oOwn, oIsiC, view_bl, dep_bl, eqT_tt, eqT_ff, eqT_tf, eqT_ft, eDIn, eDGet, eDNew, eDc, keyT, eMakeX, eCallK, eRev, oRepr, eMeth, eProp, eFld, eMake, sRaise, sPar3, ends, startT, eVar, eC, eOp, tOf, eChain, tAndM, tOrM, tNotM, eAndV, eOrV, eNotV, eIf, aNil, aCons, eTup, eLst, eFrz, frzK, oI, oIC, oSub, oMod, oDiv, oPow, oLt, oLe, oGt, oGe, oAddI', oAddL, oMulI', oAdd, oMul, eNeg, oIsN, oNotN, oIx, atK, mNo, mPart, eSl, eCB, oLen, oInt, oSumL, oMax2, oMin2, oMax1, oMin1, oList, oBls, eCall, eBM, eBM0, isLs, oApp, oPop, oExt, lsOf, tTru, sNext, sSeq, sDrop, sRet, sRetN, sIf, sBreak, sCont, sNever, gN, gNil, gCons, gTup, setT, gSub, sAsg, sPar, sAug, oIxL, sAugS, oAddI, sFor, eLc, iSeq, iRange1, iRange2, iEnum, tYes, oIsi, kdOf, oEq, oNe, eqT_int, eqT_nn, eqT_in, eqT_ni,   atI_0, atI_1, atI_2, atI_3, atI_4, atI_5, atI_6, atI_7, atI_8, atI_m1, ixN_0, ixN_1,   kdN_int, kdN_bool, kdN_str, kdN_list, kdN_tuple, isK, view_int, view_non, dep_int, dep_non, cN, cN2, wipeT,   mk_true, mk_false, put_same, put_put,   List.map_cons, List.map_nil, List.length_cons, List.length_nil, List.replicate, List.cons_append, List.nil_append, List.append_nil, List.set_cons_zero, List.set_cons_succ, List.getElem?_cons_zero, List.getElem?_cons_succ, List.getElem?_nil, Nat.reduceAdd, Nat.reduceSub, Nat.reduceLeDiff, Nat.reduceLT, Nat.reduceEqDiff, Option.isSome_some, Option.isSome_none, true_and, and_true, if_true, if_false, Bool.false_eq_true, Bool.not_true, Bool.not_false, reduceCtorEq, Nat.zero_add, Nat.zero_le, decide_eq_true_eq, Bool.not_eq_true', decide_eq_false_iff_not, ite_true, ite_false, Bool.if_false_right, Bool.if_true_left, decide_true, decide_false, Bool.true_or, Bool.or_true, Bool.false_or, Bool.or_false, Bool.true_and, Bool.and_true, Bool.false_and, Bool.and_false, List.length_map, not_true_eq_false, not_false_eq_true, false_and, and_false, bne_self_eq_false, Bool.not_eq_false])
  refine ⟨f', r', t', b', rfl, o', fun p3 np3 => ?_⟩
  (try simp only [del_put np3, insOf, C_Book___le__, lim, oOwn, oIsiC, view_bl, dep_bl, eqT_tt, eqT_ff, eqT_tf, eqT_ft, eDIn, eDGet, eDNew, eDc, keyT, eMakeX, eCallK, eRev, oRepr, eMeth, eProp, eFld, eMake, sRaise, sPar3, ends, startT, eVar, eC, eOp, tOf, eChain, tAndM, tOrM, tNotM, eAndV, eOrV, eNotV, eIf, aNil, aCons, eTup, eLst, eFrz, frzK, oI, oIC, oSub, oMod, oDiv, oPow, oLt, oLe, oGt, oGe, oAddI', oAddL, oMulI', oAdd, oMul, eNeg, oIsN, oNotN, oIx, atK, mNo, mPart, eSl, eCB, oLen, oInt, oSumL, oMax2, oMin2, oMax1, oMin1, oList, oBls, eCall, eBM, eBM0, isLs, oApp, oPop, oExt, lsOf, tTru, sNext, sSeq, sDrop, sRet, sRetN, sIf, sBreak, sCont, sNever, gN, gNil, gCons, gTup, setT, gSub, sAsg, sPar, sAug, oIxL, sAugS, oAddI, sFor, eLc, iSeq, iRange1, iRange2, iEnum, tYes, oIsi, kdOf, oEq, oNe, eqT_int, eqT_nn, eqT_in, eqT_ni,   atI_0, atI_1, atI_2, atI_3, atI_4, atI_5, atI_6, atI_7, atI_8, atI_m1, ixN_0, ixN_1,   kdN_int, kdN_bool, kdN_str, kdN_list, kdN_tuple, isK, view_int, view_non, dep_int, dep_non, cN, cN2, wipeT,   mk_true, mk_false, put_same, put_put,   List.map_cons, List.map_nil, List.length_cons, List.length_nil, List.replicate, List.cons_append, List.nil_append, List.append_nil, List.set_cons_zero, List.set_cons_succ, List.getElem?_cons_zero, List.getElem?_cons_succ, List.getElem?_nil, Nat.reduceAdd, Nat.reduceSub, Nat.reduceLeDiff, Nat.reduceLT, Nat.reduceEqDiff, Option.isSome_some, Option.isSome_none, true_and, and_true, if_true, if_false, Bool.false_eq_true, Bool.not_true, Bool.not_false, reduceCtorEq, Nat.zero_add, Nat.zero_le, decide_eq_true_eq, Bool.not_eq_true', decide_eq_false_iff_not, ite_true, ite_false, Bool.if_false_right, Bool.if_true_left, decide_true, decide_false, Bool.true_or, Bool.or_true, Bool.false_or, Bool.or_false, Bool.true_and, Bool.and_true, Bool.false_and, Bool.and_false, List.length_map, not_true_eq_false, not_false_eq_true, false_and, and_false, bne_self_eq_false, Bool.not_eq_false])
  refine ⟨_, _, f, r, t, b, f', r', t', b', rfl, rfl, rfl, o, o', fun v hv => kN _ _ ?_⟩
  clear kN N
  have hL : GB.last r t b < 130 := by
    obtain ⟨f1, fr, r1, t1, t2, b1, b2⟩ := o
    unfold GB.last
    have z1 : (r - 1) * b ≤ 12 * 9 := Int.mul_le_mul (by omega) b9 (by omega) (by decide)
    have z2 : (r - 1) * b / t ≤ (r - 1) * b := Int.ediv_le_self _ (Int.mul_nonneg (by omega) (by omega))
    omega
  refine seq_gen fun N kN => ?_
  (try simp only [C_law_due, lim, oOwn, oIsiC, view_bl, dep_bl, eqT_tt, eqT_ff, eqT_tf, eqT_ft, eDIn, eDGet, eDNew, eDc, keyT, eMakeX, eCallK, eRev, oRepr, eMeth, eProp, eFld, eMake, sRaise, sPar3, ends, startT, eVar, eC, eOp, tOf, eChain, tAndM, tOrM, tNotM, eAndV, eOrV, eNotV, eIf, aNil, aCons, eTup, eLst, eFrz, frzK, oI, oIC, oSub, oMod, oDiv, oPow, oLt, oLe, oGt, oGe, oAddI', oAddL, oMulI', oAdd, oMul, eNeg, oIsN, oNotN, oIx, atK, mNo, mPart, eSl, eCB, oLen, oInt, oSumL, oMax2, oMin2, oMax1, oMin1, oList, oBls, eCall, eBM, eBM0, isLs, oApp, oPop, oExt, lsOf, tTru, sNext, sSeq, sDrop, sRet, sRetN, sIf, sBreak, sCont, sNever, gN, gNil, gCons, gTup, setT, gSub, sAsg, sPar, sAug, oIxL, sAugS, oAddI, sFor, eLc, iSeq, iRange1, iRange2, iEnum, tYes, oIsi, kdOf, oEq, oNe, eqT_int, eqT_nn, eqT_in, eqT_ni,   atI_0, atI_1, atI_2, atI_3, atI_4, atI_5, atI_6, atI_7, atI_8, atI_m1, ixN_0, ixN_1,   kdN_int, kdN_bool, kdN_str, kdN_list, kdN_tuple, isK, view_int, view_non, dep_int, dep_non, cN, cN2, wipeT,   mk_true, mk_false, put_same, put_put,   List.map_cons, List.map_nil, List.length_cons, List.length_nil, List.replicate, List.cons_append, List.nil_append, List.append_nil, List.set_cons_zero, List.set_cons_succ, List.getElem?_cons_zero, List.getElem?_cons_succ, List.getElem?_nil, Nat.reduceAdd, Nat.reduceSub, Nat.reduceLeDiff, Nat.reduceLT, Nat.reduceEqDiff, Option.isSome_some, Option.isSome_none, true_and, and_true, if_true, if_false, Bool.false_eq_true, Bool.not_true, Bool.not_false, reduceCtorEq, Nat.zero_add, Nat.zero_le, decide_eq_true_eq, Bool.not_eq_true', decide_eq_false_iff_not, ite_true, ite_false, Bool.if_false_right, Bool.if_true_left, decide_true, decide_false, Bool.true_or, Bool.or_true, Bool.false_or, Bool.or_false, Bool.true_and, Bool.and_true, Bool.false_and, Bool.and_false, List.length_map, not_true_eq_false, not_false_eq_true, false_and, and_false, bne_self_eq_false, Bool.not_eq_false])
  refine ⟨f, r, t, b, f', r', t', b', rfl, o, o', fun w hw => ?_⟩
  have ew : w = v := bl_iff hw (hv.trans (GB.le_iff_small o o' hL))
  subst ew
  have ne1 : ∀ v : Bool, eqT (.bl v) (.bl v) = true := fun v => by cases v <;> rfl
  (try simp only [ne1, lim, oOwn, oIsiC, view_bl, dep_bl, eqT_tt, eqT_ff, eqT_tf, eqT_ft, eDIn, eDGet, eDNew, eDc, keyT, eMakeX, eCallK, eRev, oRepr, eMeth, eProp, eFld, eMake, sRaise, sPar3, ends, startT, eVar, eC, eOp, tOf, eChain, tAndM, tOrM, tNotM, eAndV, eOrV, eNotV, eIf, aNil, aCons, eTup, eLst, eFrz, frzK, oI, oIC, oSub, oMod, oDiv, oPow, oLt, oLe, oGt, oGe, oAddI', oAddL, oMulI', oAdd, oMul, eNeg, oIsN, oNotN, oIx, atK, mNo, mPart, eSl, eCB, oLen, oInt, oSumL, oMax2, oMin2, oMax1, oMin1, oList, oBls, eCall, eBM, eBM0, isLs, oApp, oPop, oExt, lsOf, tTru, sNext, sSeq, sDrop, sRet, sRetN, sIf, sBreak, sCont, sNever, gN, gNil, gCons, gTup, setT, gSub, sAsg, sPar, sAug, oIxL, sAugS, oAddI, sFor, eLc, iSeq, iRange1, iRange2, iEnum, tYes, oIsi, kdOf, oEq, oNe, eqT_int, eqT_nn, eqT_in, eqT_ni,   atI_0, atI_1, atI_2, atI_3, atI_4, atI_5, atI_6, atI_7, atI_8, atI_m1, ixN_0, ixN_1,   kdN_int, kdN_bool, kdN_str, kdN_list, kdN_tuple, isK, view_int, view_non, dep_int, dep_non, cN, cN2, wipeT,   mk_true, mk_false, put_same, put_put,   List.map_cons, List.map_nil, List.length_cons, List.length_nil, List.replicate, List.cons_append, List.nil_append, List.append_nil, List.set_cons_zero, List.set_cons_succ, List.getElem?_cons_zero, List.getElem?_cons_succ, List.getElem?_nil, Nat.reduceAdd, Nat.reduceSub, Nat.reduceLeDiff, Nat.reduceLT, Nat.reduceEqDiff, Option.isSome_some, Option.isSome_none, true_and, and_true, if_true, if_false, Bool.false_eq_true, Bool.not_true, Bool.not_false, reduceCtorEq, Nat.zero_add, Nat.zero_le, decide_eq_true_eq, Bool.not_eq_true', decide_eq_false_iff_not, ite_true, ite_false, Bool.if_false_right, Bool.if_true_left, decide_true, decide_false, Bool.true_or, Bool.or_true, Bool.false_or, Bool.or_false, Bool.true_and, Bool.and_true, Bool.false_and, Bool.and_false, List.length_map, not_true_eq_false, not_false_eq_true, false_and, and_false, bne_self_eq_false, Bool.not_eq_false])
  refine kN _ _ ?_
  clear kN N hv hw
  refine seq_gen fun N kN => ?_
  (try simp only [C_law_draws, lim, oOwn, oIsiC, view_bl, dep_bl, eqT_tt, eqT_ff, eqT_tf, eqT_ft, eDIn, eDGet, eDNew, eDc, keyT, eMakeX, eCallK, eRev, oRepr, eMeth, eProp, eFld, eMake, sRaise, sPar3, ends, startT, eVar, eC, eOp, tOf, eChain, tAndM, tOrM, tNotM, eAndV, eOrV, eNotV, eIf, aNil, aCons, eTup, eLst, eFrz, frzK, oI, oIC, oSub, oMod, oDiv, oPow, oLt, oLe, oGt, oGe, oAddI', oAddL, oMulI', oAdd, oMul, eNeg, oIsN, oNotN, oIx, atK, mNo, mPart, eSl, eCB, oLen, oInt, oSumL, oMax2, oMin2, oMax1, oMin1, oList, oBls, eCall, eBM, eBM0, isLs, oApp, oPop, oExt, lsOf, tTru, sNext, sSeq, sDrop, sRet, sRetN, sIf, sBreak, sCont, sNever, gN, gNil, gCons, gTup, setT, gSub, sAsg, sPar, sAug, oIxL, sAugS, oAddI, sFor, eLc, iSeq, iRange1, iRange2, iEnum, tYes, oIsi, kdOf, oEq, oNe, eqT_int, eqT_nn, eqT_in, eqT_ni,   atI_0, atI_1, atI_2, atI_3, atI_4, atI_5, atI_6, atI_7, atI_8, atI_m1, ixN_0, ixN_1,   kdN_int, kdN_bool, kdN_str, kdN_list, kdN_tuple, isK, view_int, view_non, dep_int, dep_non, cN, cN2, wipeT,   mk_true, mk_false, put_same, put_put,   List.map_cons, List.map_nil, List.length_cons, List.length_nil, List.replicate, List.cons_append, List.nil_append, List.append_nil, List.set_cons_zero, List.set_cons_succ, List.getElem?_cons_zero, List.getElem?_cons_succ, List.getElem?_nil, Nat.reduceAdd, Nat.reduceSub, Nat.reduceLeDiff, Nat.reduceLT, Nat.reduceEqDiff, Option.isSome_some, Option.isSome_none, true_and, and_true, if_true, if_false, Bool.false_eq_true, Bool.not_true, Bool.not_false, reduceCtorEq, Nat.zero_add, Nat.zero_le, decide_eq_true_eq, Bool.not_eq_true', decide_eq_false_iff_not, ite_true, ite_false, Bool.if_false_right, Bool.if_true_left, decide_true, decide_false, Bool.true_or, Bool.or_true, Bool.false_or, Bool.or_false, Bool.true_and, Bool.and_true, Bool.false_and, Bool.and_false, List.length_map, not_true_eq_false, not_false_eq_true, false_and, and_false, bne_self_eq_false, Bool.not_eq_false])
  refine ⟨p, rfl, gp, fun F R A B O1 => ?_⟩
  (try simp only [C_law_draws, ptT, shT, lim, oOwn, oIsiC, view_bl, dep_bl, eqT_tt, eqT_ff, eqT_tf, eqT_ft, eDIn, eDGet, eDNew, eDc, keyT, eMakeX, eCallK, eRev, oRepr, eMeth, eProp, eFld, eMake, sRaise, sPar3, ends, startT, eVar, eC, eOp, tOf, eChain, tAndM, tOrM, tNotM, eAndV, eOrV, eNotV, eIf, aNil, aCons, eTup, eLst, eFrz, frzK, oI, oIC, oSub, oMod, oDiv, oPow, oLt, oLe, oGt, oGe, oAddI', oAddL, oMulI', oAdd, oMul, eNeg, oIsN, oNotN, oIx, atK, mNo, mPart, eSl, eCB, oLen, oInt, oSumL, oMax2, oMin2, oMax1, oMin1, oList, oBls, eCall, eBM, eBM0, isLs, oApp, oPop, oExt, lsOf, tTru, sNext, sSeq, sDrop, sRet, sRetN, sIf, sBreak, sCont, sNever, gN, gNil, gCons, gTup, setT, gSub, sAsg, sPar, sAug, oIxL, sAugS, oAddI, sFor, eLc, iSeq, iRange1, iRange2, iEnum, tYes, oIsi, kdOf, oEq, oNe, eqT_int, eqT_nn, eqT_in, eqT_ni,   atI_0, atI_1, atI_2, atI_3, atI_4, atI_5, atI_6, atI_7, atI_8, atI_m1, ixN_0, ixN_1,   kdN_int, kdN_bool, kdN_str, kdN_list, kdN_tuple, isK, view_int, view_non, dep_int, dep_non, cN, cN2, wipeT,   mk_true, mk_false, put_same, put_put,   List.map_cons, List.map_nil, List.length_cons, List.length_nil, List.replicate, List.cons_append, List.nil_append, List.append_nil, List.set_cons_zero, List.set_cons_succ, List.getElem?_cons_zero, List.getElem?_cons_succ, List.getElem?_nil, Nat.reduceAdd, Nat.reduceSub, Nat.reduceLeDiff, Nat.reduceLT, Nat.reduceEqDiff, Option.isSome_some, Option.isSome_none, true_and, and_true, if_true, if_false, Bool.false_eq_true, Bool.not_true, Bool.not_false, reduceCtorEq, Nat.zero_add, Nat.zero_le, decide_eq_true_eq, Bool.not_eq_true', decide_eq_false_iff_not, ite_true, ite_false, Bool.if_false_right, Bool.if_true_left, decide_true, decide_false, Bool.true_or, Bool.or_true, Bool.false_or, Bool.or_false, Bool.true_and, Bool.and_true, Bool.false_and, Bool.and_false, List.length_map, not_true_eq_false, not_false_eq_true, false_and, and_false, bne_self_eq_false, Bool.not_eq_false])
  refine ⟨p, rfl, gp, fun F' R' A1 B1 O2 => ?_⟩
  (try simp only [C_law_draws, ptT, shT, lim, oOwn, oIsiC, view_bl, dep_bl, eqT_tt, eqT_ff, eqT_tf, eqT_ft, eDIn, eDGet, eDNew, eDc, keyT, eMakeX, eCallK, eRev, oRepr, eMeth, eProp, eFld, eMake, sRaise, sPar3, ends, startT, eVar, eC, eOp, tOf, eChain, tAndM, tOrM, tNotM, eAndV, eOrV, eNotV, eIf, aNil, aCons, eTup, eLst, eFrz, frzK, oI, oIC, oSub, oMod, oDiv, oPow, oLt, oLe, oGt, oGe, oAddI', oAddL, oMulI', oAdd, oMul, eNeg, oIsN, oNotN, oIx, atK, mNo, mPart, eSl, eCB, oLen, oInt, oSumL, oMax2, oMin2, oMax1, oMin1, oList, oBls, eCall, eBM, eBM0, isLs, oApp, oPop, oExt, lsOf, tTru, sNext, sSeq, sDrop, sRet, sRetN, sIf, sBreak, sCont, sNever, gN, gNil, gCons, gTup, setT, gSub, sAsg, sPar, sAug, oIxL, sAugS, oAddI, sFor, eLc, iSeq, iRange1, iRange2, iEnum, tYes, oIsi, kdOf, oEq, oNe, eqT_int, eqT_nn, eqT_in, eqT_ni,   atI_0, atI_1, atI_2, atI_3, atI_4, atI_5, atI_6, atI_7, atI_8, atI_m1, ixN_0, ixN_1,   kdN_int, kdN_bool, kdN_str, kdN_list, kdN_tuple, isK, view_int, view_non, dep_int, dep_non, cN, cN2, wipeT,   mk_true, mk_false, put_same, put_put,   List.map_cons, List.map_nil, List.length_cons, List.length_nil, List.replicate, List.cons_append, List.nil_append, List.append_nil, List.set_cons_zero, List.set_cons_succ, List.getElem?_cons_zero, List.getElem?_cons_succ, List.getElem?_nil, Nat.reduceAdd, Nat.reduceSub, Nat.reduceLeDiff, Nat.reduceLT, Nat.reduceEqDiff, Option.isSome_some, Option.isSome_none, true_and, and_true, if_true, if_false, Bool.false_eq_true, Bool.not_true, Bool.not_false, reduceCtorEq, Nat.zero_add, Nat.zero_le, decide_eq_true_eq, Bool.not_eq_true', decide_eq_false_iff_not, ite_true, ite_false, Bool.if_false_right, Bool.if_true_left, decide_true, decide_false, Bool.true_or, Bool.or_true, Bool.false_or, Bool.or_false, Bool.true_and, Bool.and_true, Bool.false_and, Bool.and_false, List.length_map, not_true_eq_false, not_false_eq_true, false_and, and_false, bne_self_eq_false, Bool.not_eq_false])
  refine kN _ _ ?_
  clear kN N
  refine seq_gen fun N kN => ?_
  (try simp only [ends, lim, oOwn, oIsiC, view_bl, dep_bl, eqT_tt, eqT_ff, eqT_tf, eqT_ft, eDIn, eDGet, eDNew, eDc, keyT, eMakeX, eCallK, eRev, oRepr, eMeth, eProp, eFld, eMake, sRaise, sPar3, ends, startT, eVar, eC, eOp, tOf, eChain, tAndM, tOrM, tNotM, eAndV, eOrV, eNotV, eIf, aNil, aCons, eTup, eLst, eFrz, frzK, oI, oIC, oSub, oMod, oDiv, oPow, oLt, oLe, oGt, oGe, oAddI', oAddL, oMulI', oAdd, oMul, eNeg, oIsN, oNotN, oIx, atK, mNo, mPart, eSl, eCB, oLen, oInt, oSumL, oMax2, oMin2, oMax1, oMin1, oList, oBls, eCall, eBM, eBM0, isLs, oApp, oPop, oExt, lsOf, tTru, sNext, sSeq, sDrop, sRet, sRetN, sIf, sBreak, sCont, sNever, gN, gNil, gCons, gTup, setT, gSub, sAsg, sPar, sAug, oIxL, sAugS, oAddI, sFor, eLc, iSeq, iRange1, iRange2, iEnum, tYes, oIsi, kdOf, oEq, oNe, eqT_int, eqT_nn, eqT_in, eqT_ni,   atI_0, atI_1, atI_2, atI_3, atI_4, atI_5, atI_6, atI_7, atI_8, atI_m1, ixN_0, ixN_1,   kdN_int, kdN_bool, kdN_str, kdN_list, kdN_tuple, isK, view_int, view_non, dep_int, dep_non, cN, cN2, wipeT,   mk_true, mk_false, put_same, put_put,   List.map_cons, List.map_nil, List.length_cons, List.length_nil, List.replicate, List.cons_append, List.nil_append, List.append_nil, List.set_cons_zero, List.set_cons_succ, List.getElem?_cons_zero, List.getElem?_cons_succ, List.getElem?_nil, Nat.reduceAdd, Nat.reduceSub, Nat.reduceLeDiff, Nat.reduceLT, Nat.reduceEqDiff, Option.isSome_some, Option.isSome_none, true_and, and_true, if_true, if_false, Bool.false_eq_true, Bool.not_true, Bool.not_false, reduceCtorEq, Nat.zero_add, Nat.zero_le, decide_eq_true_eq, Bool.not_eq_true', decide_eq_false_iff_not, ite_true, ite_false, Bool.if_false_right, Bool.if_true_left, decide_true, decide_false, Bool.true_or, Bool.or_true, Bool.false_or, Bool.or_false, Bool.true_and, Bool.and_true, Bool.false_and, Bool.and_false, List.length_map, not_true_eq_false, not_false_eq_true, false_and, and_false, bne_self_eq_false, Bool.not_eq_false])
  refine kN _ _ ?_
  clear kN N
  have O3 : GB.Ok F' R' A B := ⟨O2.f1, O2.fr, O2.r1, O1.t1, O1.t2, O1.b1, O1.b2⟩
  refine seq_gen fun N kN => ?_
  refine (show (∀ v : Bool, (v = true ↔ F ≤ F' ∧ R ≤ R') → N [some (.scr ns), some (.int (0 + (k : Int))), some (.ref p), some (.int (0 + (i : Int))), some (ptT f r t b), some (ptT f' r' t' b'), some (.bl w), some (ptT F R A B), some (ptT F' R' A B), some (.bl v), y10] h'') → _ from fun kv => ?_) (fun v hv => kN _ _ ?_)
  · by_cases cF : F ≤ F'
    · by_cases cR : R ≤ R'
      · (try simp only [cF, cR, lim, oOwn, oIsiC, view_bl, dep_bl, eqT_tt, eqT_ff, eqT_tf, eqT_ft, eDIn, eDGet, eDNew, eDc, keyT, eMakeX, eCallK, eRev, oRepr, eMeth, eProp, eFld, eMake, sRaise, sPar3, ends, startT, eVar, eC, eOp, tOf, eChain, tAndM, tOrM, tNotM, eAndV, eOrV, eNotV, eIf, aNil, aCons, eTup, eLst, eFrz, frzK, oI, oIC, oSub, oMod, oDiv, oPow, oLt, oLe, oGt, oGe, oAddI', oAddL, oMulI', oAdd, oMul, eNeg, oIsN, oNotN, oIx, atK, mNo, mPart, eSl, eCB, oLen, oInt, oSumL, oMax2, oMin2, oMax1, oMin1, oList, oBls, eCall, eBM, eBM0, isLs, oApp, oPop, oExt, lsOf, tTru, sNext, sSeq, sDrop, sRet, sRetN, sIf, sBreak, sCont, sNever, gN, gNil, gCons, gTup, setT, gSub, sAsg, sPar, sAug, oIxL, sAugS, oAddI, sFor, eLc, iSeq, iRange1, iRange2, iEnum, tYes, oIsi, kdOf, oEq, oNe, eqT_int, eqT_nn, eqT_in, eqT_ni,   atI_0, atI_1, atI_2, atI_3, atI_4, atI_5, atI_6, atI_7, atI_8, atI_m1, ixN_0, ixN_1,   kdN_int, kdN_bool, kdN_str, kdN_list, kdN_tuple, isK, view_int, view_non, dep_int, dep_non, cN, cN2, wipeT,   mk_true, mk_false, put_same, put_put,   List.map_cons, List.map_nil, List.length_cons, List.length_nil, List.replicate, List.cons_append, List.nil_append, List.append_nil, List.set_cons_zero, List.set_cons_succ, List.getElem?_cons_zero, List.getElem?_cons_succ, List.getElem?_nil, Nat.reduceAdd, Nat.reduceSub, Nat.reduceLeDiff, Nat.reduceLT, Nat.reduceEqDiff, Option.isSome_some, Option.isSome_none, true_and, and_true, if_true, if_false, Bool.false_eq_true, Bool.not_true, Bool.not_false, reduceCtorEq, Nat.zero_add, Nat.zero_le, decide_eq_true_eq, Bool.not_eq_true', decide_eq_false_iff_not, ite_true, ite_false, Bool.if_false_right, Bool.if_true_left, decide_true, decide_false, Bool.true_or, Bool.or_true, Bool.false_or, Bool.or_false, Bool.true_and, Bool.and_true, Bool.false_and, Bool.and_false, List.length_map, not_true_eq_false, not_false_eq_true, false_and, and_false, bne_self_eq_false, Bool.not_eq_false])
        exact kv true ⟨fun _ => ⟨cF, cR⟩, fun _ => rfl⟩
      · (try simp only [cF, cR, lim, oOwn, oIsiC, view_bl, dep_bl, eqT_tt, eqT_ff, eqT_tf, eqT_ft, eDIn, eDGet, eDNew, eDc, keyT, eMakeX, eCallK, eRev, oRepr, eMeth, eProp, eFld, eMake, sRaise, sPar3, ends, startT, eVar, eC, eOp, tOf, eChain, tAndM, tOrM, tNotM, eAndV, eOrV, eNotV, eIf, aNil, aCons, eTup, eLst, eFrz, frzK, oI, oIC, oSub, oMod, oDiv, oPow, oLt, oLe, oGt, oGe, oAddI', oAddL, oMulI', oAdd, oMul, eNeg, oIsN, oNotN, oIx, atK, mNo, mPart, eSl, eCB, oLen, oInt, oSumL, oMax2, oMin2, oMax1, oMin1, oList, oBls, eCall, eBM, eBM0, isLs, oApp, oPop, oExt, lsOf, tTru, sNext, sSeq, sDrop, sRet, sRetN, sIf, sBreak, sCont, sNever, gN, gNil, gCons, gTup, setT, gSub, sAsg, sPar, sAug, oIxL, sAugS, oAddI, sFor, eLc, iSeq, iRange1, iRange2, iEnum, tYes, oIsi, kdOf, oEq, oNe, eqT_int, eqT_nn, eqT_in, eqT_ni,   atI_0, atI_1, atI_2, atI_3, atI_4, atI_5, atI_6, atI_7, atI_8, atI_m1, ixN_0, ixN_1,   kdN_int, kdN_bool, kdN_str, kdN_list, kdN_tuple, isK, view_int, view_non, dep_int, dep_non, cN, cN2, wipeT,   mk_true, mk_false, put_same, put_put,   List.map_cons, List.map_nil, List.length_cons, List.length_nil, List.replicate, List.cons_append, List.nil_append, List.append_nil, List.set_cons_zero, List.set_cons_succ, List.getElem?_cons_zero, List.getElem?_cons_succ, List.getElem?_nil, Nat.reduceAdd, Nat.reduceSub, Nat.reduceLeDiff, Nat.reduceLT, Nat.reduceEqDiff, Option.isSome_some, Option.isSome_none, true_and, and_true, if_true, if_false, Bool.false_eq_true, Bool.not_true, Bool.not_false, reduceCtorEq, Nat.zero_add, Nat.zero_le, decide_eq_true_eq, Bool.not_eq_true', decide_eq_false_iff_not, ite_true, ite_false, Bool.if_false_right, Bool.if_true_left, decide_true, decide_false, Bool.true_or, Bool.or_true, Bool.false_or, Bool.or_false, Bool.true_and, Bool.and_true, Bool.false_and, Bool.and_false, List.length_map, not_true_eq_false, not_false_eq_true, false_and, and_false, bne_self_eq_false, Bool.not_eq_false])
        exact kv false ⟨fun z => (by cases z), fun z => absurd z.2 cR⟩
    · (try simp only [cF, lim, oOwn, oIsiC, view_bl, dep_bl, eqT_tt, eqT_ff, eqT_tf, eqT_ft, eDIn, eDGet, eDNew, eDc, keyT, eMakeX, eCallK, eRev, oRepr, eMeth, eProp, eFld, eMake, sRaise, sPar3, ends, startT, eVar, eC, eOp, tOf, eChain, tAndM, tOrM, tNotM, eAndV, eOrV, eNotV, eIf, aNil, aCons, eTup, eLst, eFrz, frzK, oI, oIC, oSub, oMod, oDiv, oPow, oLt, oLe, oGt, oGe, oAddI', oAddL, oMulI', oAdd, oMul, eNeg, oIsN, oNotN, oIx, atK, mNo, mPart, eSl, eCB, oLen, oInt, oSumL, oMax2, oMin2, oMax1, oMin1, oList, oBls, eCall, eBM, eBM0, isLs, oApp, oPop, oExt, lsOf, tTru, sNext, sSeq, sDrop, sRet, sRetN, sIf, sBreak, sCont, sNever, gN, gNil, gCons, gTup, setT, gSub, sAsg, sPar, sAug, oIxL, sAugS, oAddI, sFor, eLc, iSeq, iRange1, iRange2, iEnum, tYes, oIsi, kdOf, oEq, oNe, eqT_int, eqT_nn, eqT_in, eqT_ni,   atI_0, atI_1, atI_2, atI_3, atI_4, atI_5, atI_6, atI_7, atI_8, atI_m1, ixN_0, ixN_1,   kdN_int, kdN_bool, kdN_str, kdN_list, kdN_tuple, isK, view_int, view_non, dep_int, dep_non, cN, cN2, wipeT,   mk_true, mk_false, put_same, put_put,   List.map_cons, List.map_nil, List.length_cons, List.length_nil, List.replicate, List.cons_append, List.nil_append, List.append_nil, List.set_cons_zero, List.set_cons_succ, List.getElem?_cons_zero, List.getElem?_cons_succ, List.getElem?_nil, Nat.reduceAdd, Nat.reduceSub, Nat.reduceLeDiff, Nat.reduceLT, Nat.reduceEqDiff, Option.isSome_some, Option.isSome_none, true_and, and_true, if_true, if_false, Bool.false_eq_true, Bool.not_true, Bool.not_false, reduceCtorEq, Nat.zero_add, Nat.zero_le, decide_eq_true_eq, Bool.not_eq_true', decide_eq_false_iff_not, ite_true, ite_false, Bool.if_false_right, Bool.if_true_left, decide_true, decide_false, Bool.true_or, Bool.or_true, Bool.false_or, Bool.or_false, Bool.true_and, Bool.and_true, Bool.false_and, Bool.and_false, List.length_map, not_true_eq_false, not_false_eq_true, false_and, and_false, bne_self_eq_false, Bool.not_eq_false])
      exact kv false ⟨fun z => (by cases z), fun z => absurd z.1 cF⟩
  clear kN N
  refine seq_gen fun N kN => ?_
  (try simp only [C_law_made, ptT, shT, lim, oOwn, oIsiC, view_bl, dep_bl, eqT_tt, eqT_ff, eqT_tf, eqT_ft, eDIn, eDGet, eDNew, eDc, keyT, eMakeX, eCallK, eRev, oRepr, eMeth, eProp, eFld, eMake, sRaise, sPar3, ends, startT, eVar, eC, eOp, tOf, eChain, tAndM, tOrM, tNotM, eAndV, eOrV, eNotV, eIf, aNil, aCons, eTup, eLst, eFrz, frzK, oI, oIC, oSub, oMod, oDiv, oPow, oLt, oLe, oGt, oGe, oAddI', oAddL, oMulI', oAdd, oMul, eNeg, oIsN, oNotN, oIx, atK, mNo, mPart, eSl, eCB, oLen, oInt, oSumL, oMax2, oMin2, oMax1, oMin1, oList, oBls, eCall, eBM, eBM0, isLs, oApp, oPop, oExt, lsOf, tTru, sNext, sSeq, sDrop, sRet, sRetN, sIf, sBreak, sCont, sNever, gN, gNil, gCons, gTup, setT, gSub, sAsg, sPar, sAug, oIxL, sAugS, oAddI, sFor, eLc, iSeq, iRange1, iRange2, iEnum, tYes, oIsi, kdOf, oEq, oNe, eqT_int, eqT_nn, eqT_in, eqT_ni,   atI_0, atI_1, atI_2, atI_3, atI_4, atI_5, atI_6, atI_7, atI_8, atI_m1, ixN_0, ixN_1,   kdN_int, kdN_bool, kdN_str, kdN_list, kdN_tuple, isK, view_int, view_non, dep_int, dep_non, cN, cN2, wipeT,   mk_true, mk_false, put_same, put_put,   List.map_cons, List.map_nil, List.length_cons, List.length_nil, List.replicate, List.cons_append, List.nil_append, List.append_nil, List.set_cons_zero, List.set_cons_succ, List.getElem?_cons_zero, List.getElem?_cons_succ, List.getElem?_nil, Nat.reduceAdd, Nat.reduceSub, Nat.reduceLeDiff, Nat.reduceLT, Nat.reduceEqDiff, Option.isSome_some, Option.isSome_none, true_and, and_true, if_true, if_false, Bool.false_eq_true, Bool.not_true, Bool.not_false, reduceCtorEq, Nat.zero_add, Nat.zero_le, decide_eq_true_eq, Bool.not_eq_true', decide_eq_false_iff_not, ite_true, ite_false, Bool.if_false_right, Bool.if_true_left, decide_true, decide_false, Bool.true_or, Bool.or_true, Bool.false_or, Bool.or_false, Bool.true_and, Bool.and_true, Bool.false_and, Bool.and_false, List.length_map, not_true_eq_false, not_false_eq_true, false_and, and_false, bne_self_eq_false, Bool.not_eq_false])
  refine ⟨F, R, A, B, rfl, O1, fun p4 np4 => ?_⟩
  (try simp only [del_put np4, lim, oOwn, oIsiC, view_bl, dep_bl, eqT_tt, eqT_ff, eqT_tf, eqT_ft, eDIn, eDGet, eDNew, eDc, keyT, eMakeX, eCallK, eRev, oRepr, eMeth, eProp, eFld, eMake, sRaise, sPar3, ends, startT, eVar, eC, eOp, tOf, eChain, tAndM, tOrM, tNotM, eAndV, eOrV, eNotV, eIf, aNil, aCons, eTup, eLst, eFrz, frzK, oI, oIC, oSub, oMod, oDiv, oPow, oLt, oLe, oGt, oGe, oAddI', oAddL, oMulI', oAdd, oMul, eNeg, oIsN, oNotN, oIx, atK, mNo, mPart, eSl, eCB, oLen, oInt, oSumL, oMax2, oMin2, oMax1, oMin1, oList, oBls, eCall, eBM, eBM0, isLs, oApp, oPop, oExt, lsOf, tTru, sNext, sSeq, sDrop, sRet, sRetN, sIf, sBreak, sCont, sNever, gN, gNil, gCons, gTup, setT, gSub, sAsg, sPar, sAug, oIxL, sAugS, oAddI, sFor, eLc, iSeq, iRange1, iRange2, iEnum, tYes, oIsi, kdOf, oEq, oNe, eqT_int, eqT_nn, eqT_in, eqT_ni,   atI_0, atI_1, atI_2, atI_3, atI_4, atI_5, atI_6, atI_7, atI_8, atI_m1, ixN_0, ixN_1,   kdN_int, kdN_bool, kdN_str, kdN_list, kdN_tuple, isK, view_int, view_non, dep_int, dep_non, cN, cN2, wipeT,   mk_true, mk_false, put_same, put_put,   List.map_cons, List.map_nil, List.length_cons, List.length_nil, List.replicate, List.cons_append, List.nil_append, List.append_nil, List.set_cons_zero, List.set_cons_succ, List.getElem?_cons_zero, List.getElem?_cons_succ, List.getElem?_nil, Nat.reduceAdd, Nat.reduceSub, Nat.reduceLeDiff, Nat.reduceLT, Nat.reduceEqDiff, Option.isSome_some, Option.isSome_none, true_and, and_true, if_true, if_false, Bool.false_eq_true, Bool.not_true, Bool.not_false, reduceCtorEq, Nat.zero_add, Nat.zero_le, decide_eq_true_eq, Bool.not_eq_true', decide_eq_false_iff_not, ite_true, ite_false, Bool.if_false_right, Bool.if_true_left, decide_true, decide_false, Bool.true_or, Bool.or_true, Bool.false_or, Bool.or_false, Bool.true_and, Bool.and_true, Bool.false_and, Bool.and_false, List.length_map, not_true_eq_false, not_false_eq_true, false_and, and_false, bne_self_eq_false, Bool.not_eq_false])
  refine ⟨F', R', A, B, rfl, O3, fun p5 np5 => ?_⟩
  (try simp only [del_put np5, insOf, C_Book___le__, lim, oOwn, oIsiC, view_bl, dep_bl, eqT_tt, eqT_ff, eqT_tf, eqT_ft, eDIn, eDGet, eDNew, eDc, keyT, eMakeX, eCallK, eRev, oRepr, eMeth, eProp, eFld, eMake, sRaise, sPar3, ends, startT, eVar, eC, eOp, tOf, eChain, tAndM, tOrM, tNotM, eAndV, eOrV, eNotV, eIf, aNil, aCons, eTup, eLst, eFrz, frzK, oI, oIC, oSub, oMod, oDiv, oPow, oLt, oLe, oGt, oGe, oAddI', oAddL, oMulI', oAdd, oMul, eNeg, oIsN, oNotN, oIx, atK, mNo, mPart, eSl, eCB, oLen, oInt, oSumL, oMax2, oMin2, oMax1, oMin1, oList, oBls, eCall, eBM, eBM0, isLs, oApp, oPop, oExt, lsOf, tTru, sNext, sSeq, sDrop, sRet, sRetN, sIf, sBreak, sCont, sNever, gN, gNil, gCons, gTup, setT, gSub, sAsg, sPar, sAug, oIxL, sAugS, oAddI, sFor, eLc, iSeq, iRange1, iRange2, iEnum, tYes, oIsi, kdOf, oEq, oNe, eqT_int, eqT_nn, eqT_in, eqT_ni,   atI_0, atI_1, atI_2, atI_3, atI_4, atI_5, atI_6, atI_7, atI_8, atI_m1, ixN_0, ixN_1,   kdN_int, kdN_bool, kdN_str, kdN_list, kdN_tuple, isK, view_int, view_non, dep_int, dep_non, cN, cN2, wipeT,   mk_true, mk_false, put_same, put_put,   List.map_cons, List.map_nil, List.length_cons, List.length_nil, List.replicate, List.cons_append, List.nil_append, List.append_nil, List.set_cons_zero, List.set_cons_succ, List.getElem?_cons_zero, List.getElem?_cons_succ, List.getElem?_nil, Nat.reduceAdd, Nat.reduceSub, Nat.reduceLeDiff, Nat.reduceLT, Nat.reduceEqDiff, Option.isSome_some, Option.isSome_none, true_and, and_true, if_true, if_false, Bool.false_eq_true, Bool.not_true, Bool.not_false, reduceCtorEq, Nat.zero_add, Nat.zero_le, decide_eq_true_eq, Bool.not_eq_true', decide_eq_false_iff_not, ite_true, ite_false, Bool.if_false_right, Bool.if_true_left, decide_true, decide_false, Bool.true_or, Bool.or_true, Bool.false_or, Bool.or_false, Bool.true_and, Bool.and_true, Bool.false_and, Bool.and_false, List.length_map, not_true_eq_false, not_false_eq_true, false_and, and_false, bne_self_eq_false, Bool.not_eq_false])
  refine ⟨_, _, F, R, A, B, F', R', A, B, rfl, rfl, rfl, O1, O3, fun u hu => ?_⟩
  have eu : u = v := bl_iff (hu.trans (GB.le_same O1 O3 rfl rfl)) hv
  subst eu
  (try simp only [ne1, lim, oOwn, oIsiC, view_bl, dep_bl, eqT_tt, eqT_ff, eqT_tf, eqT_ft, eDIn, eDGet, eDNew, eDc, keyT, eMakeX, eCallK, eRev, oRepr, eMeth, eProp, eFld, eMake, sRaise, sPar3, ends, startT, eVar, eC, eOp, tOf, eChain, tAndM, tOrM, tNotM, eAndV, eOrV, eNotV, eIf, aNil, aCons, eTup, eLst, eFrz, frzK, oI, oIC, oSub, oMod, oDiv, oPow, oLt, oLe, oGt, oGe, oAddI', oAddL, oMulI', oAdd, oMul, eNeg, oIsN, oNotN, oIx, atK, mNo, mPart, eSl, eCB, oLen, oInt, oSumL, oMax2, oMin2, oMax1, oMin1, oList, oBls, eCall, eBM, eBM0, isLs, oApp, oPop, oExt, lsOf, tTru, sNext, sSeq, sDrop, sRet, sRetN, sIf, sBreak, sCont, sNever, gN, gNil, gCons, gTup, setT, gSub, sAsg, sPar, sAug, oIxL, sAugS, oAddI, sFor, eLc, iSeq, iRange1, iRange2, iEnum, tYes, oIsi, kdOf, oEq, oNe, eqT_int, eqT_nn, eqT_in, eqT_ni,   atI_0, atI_1, atI_2, atI_3, atI_4, atI_5, atI_6, atI_7, atI_8, atI_m1, ixN_0, ixN_1,   kdN_int, kdN_bool, kdN_str, kdN_list, kdN_tuple, isK, view_int, view_non, dep_int, dep_non, cN, cN2, wipeT,   mk_true, mk_false, put_same, put_put,   List.map_cons, List.map_nil, List.length_cons, List.length_nil, List.replicate, List.cons_append, List.nil_append, List.append_nil, List.set_cons_zero, List.set_cons_succ, List.getElem?_cons_zero, List.getElem?_cons_succ, List.getElem?_nil, Nat.reduceAdd, Nat.reduceSub, Nat.reduceLeDiff, Nat.reduceLT, Nat.reduceEqDiff, Option.isSome_some, Option.isSome_none, true_and, and_true, if_true, if_false, Bool.false_eq_true, Bool.not_true, Bool.not_false, reduceCtorEq, Nat.zero_add, Nat.zero_le, decide_eq_true_eq, Bool.not_eq_true', decide_eq_false_iff_not, ite_true, ite_false, Bool.if_false_right, Bool.if_true_left, decide_true, decide_false, Bool.true_or, Bool.or_true, Bool.false_or, Bool.or_false, Bool.true_and, Bool.and_true, Bool.false_and, Bool.and_false, List.length_map, not_true_eq_false, not_false_eq_true, false_and, and_false, bne_self_eq_false, Bool.not_eq_false])
  refine kN _ _ ?_
  clear kN N hv hu
  refine seq_gen fun N kN => ?_
  (try simp only [CDraw, lim, oOwn, oIsiC, view_bl, dep_bl, eqT_tt, eqT_ff, eqT_tf, eqT_ft, eDIn, eDGet, eDNew, eDc, keyT, eMakeX, eCallK, eRev, oRepr, eMeth, eProp, eFld, eMake, sRaise, sPar3, ends, startT, eVar, eC, eOp, tOf, eChain, tAndM, tOrM, tNotM, eAndV, eOrV, eNotV, eIf, aNil, aCons, eTup, eLst, eFrz, frzK, oI, oIC, oSub, oMod, oDiv, oPow, oLt, oLe, oGt, oGe, oAddI', oAddL, oMulI', oAdd, oMul, eNeg, oIsN, oNotN, oIx, atK, mNo, mPart, eSl, eCB, oLen, oInt, oSumL, oMax2, oMin2, oMax1, oMin1, oList, oBls, eCall, eBM, eBM0, isLs, oApp, oPop, oExt, lsOf, tTru, sNext, sSeq, sDrop, sRet, sRetN, sIf, sBreak, sCont, sNever, gN, gNil, gCons, gTup, setT, gSub, sAsg, sPar, sAug, oIxL, sAugS, oAddI, sFor, eLc, iSeq, iRange1, iRange2, iEnum, tYes, oIsi, kdOf, oEq, oNe, eqT_int, eqT_nn, eqT_in, eqT_ni,   atI_0, atI_1, atI_2, atI_3, atI_4, atI_5, atI_6, atI_7, atI_8, atI_m1, ixN_0, ixN_1,   kdN_int, kdN_bool, kdN_str, kdN_list, kdN_tuple, isK, view_int, view_non, dep_int, dep_non, cN, cN2, wipeT,   mk_true, mk_false, put_same, put_put,   List.map_cons, List.map_nil, List.length_cons, List.length_nil, List.replicate, List.cons_append, List.nil_append, List.append_nil, List.set_cons_zero, List.set_cons_succ, List.getElem?_cons_zero, List.getElem?_cons_succ, List.getElem?_nil, Nat.reduceAdd, Nat.reduceSub, Nat.reduceLeDiff, Nat.reduceLT, Nat.reduceEqDiff, Option.isSome_some, Option.isSome_none, true_and, and_true, if_true, if_false, Bool.false_eq_true, Bool.not_true, Bool.not_false, reduceCtorEq, Nat.zero_add, Nat.zero_le, decide_eq_true_eq, Bool.not_eq_true', decide_eq_false_iff_not, ite_true, ite_false, Bool.if_false_right, Bool.if_true_left, decide_true, decide_false, Bool.true_or, Bool.or_true, Bool.false_or, Bool.or_false, Bool.true_and, Bool.and_true, Bool.false_and, Bool.and_false, List.length_map, not_true_eq_false, not_false_eq_true, false_and, and_false, bne_self_eq_false, Bool.not_eq_false])
  refine ⟨p, 4, rfl, by decide, by decide, gp, fun d d0 d1 => ?_⟩
  have c3 : ∃ t b : Int, atI ([.tup [.int 2, .int 1], .tup [.int 1, .int 2], .tup [.int 99, .int 100], .tup [.int 100, .int 99]] : List T) d = some (T.tup [.int t, .int b]) ∧ 1 ≤ t ∧ t ≤ 100 ∧ 1 ≤ b ∧ b ≤ 100 := by
    have : d = 0 ∨ d = 1 ∨ d = 2 ∨ d = 3 := by omega
    rcases this with rfl | rfl | rfl | rfl
    · exact ⟨_, _, rfl, by decide, by decide, by decide, by decide⟩
    · exact ⟨_, _, rfl, by decide, by decide, by decide, by decide⟩
    · exact ⟨_, _, rfl, by decide, by decide, by decide, by decide⟩
    · exact ⟨_, _, rfl, by decide, by decide, by decide, by decide⟩
  obtain ⟨A2, B2, e4, A21, A22, B21, B22⟩ := c3
  have O4 : GB.Ok F' R' A2 B2 := ⟨O2.f1, O2.fr, O2.r1, A21, A22, B21, B22⟩
  (try simp only [e4, lim, oOwn, oIsiC, view_bl, dep_bl, eqT_tt, eqT_ff, eqT_tf, eqT_ft, eDIn, eDGet, eDNew, eDc, keyT, eMakeX, eCallK, eRev, oRepr, eMeth, eProp, eFld, eMake, sRaise, sPar3, ends, startT, eVar, eC, eOp, tOf, eChain, tAndM, tOrM, tNotM, eAndV, eOrV, eNotV, eIf, aNil, aCons, eTup, eLst, eFrz, frzK, oI, oIC, oSub, oMod, oDiv, oPow, oLt, oLe, oGt, oGe, oAddI', oAddL, oMulI', oAdd, oMul, eNeg, oIsN, oNotN, oIx, atK, mNo, mPart, eSl, eCB, oLen, oInt, oSumL, oMax2, oMin2, oMax1, oMin1, oList, oBls, eCall, eBM, eBM0, isLs, oApp, oPop, oExt, lsOf, tTru, sNext, sSeq, sDrop, sRet, sRetN, sIf, sBreak, sCont, sNever, gN, gNil, gCons, gTup, setT, gSub, sAsg, sPar, sAug, oIxL, sAugS, oAddI, sFor, eLc, iSeq, iRange1, iRange2, iEnum, tYes, oIsi, kdOf, oEq, oNe, eqT_int, eqT_nn, eqT_in, eqT_ni,   atI_0, atI_1, atI_2, atI_3, atI_4, atI_5, atI_6, atI_7, atI_8, atI_m1, ixN_0, ixN_1,   kdN_int, kdN_bool, kdN_str, kdN_list, kdN_tuple, isK, view_int, view_non, dep_int, dep_non, cN, cN2, wipeT,   mk_true, mk_false, put_same, put_put,   List.map_cons, List.map_nil, List.length_cons, List.length_nil, List.replicate, List.cons_append, List.nil_append, List.append_nil, List.set_cons_zero, List.set_cons_succ, List.getElem?_cons_zero, List.getElem?_cons_succ, List.getElem?_nil, Nat.reduceAdd, Nat.reduceSub, Nat.reduceLeDiff, Nat.reduceLT, Nat.reduceEqDiff, Option.isSome_some, Option.isSome_none, true_and, and_true, if_true, if_false, Bool.false_eq_true, Bool.not_true, Bool.not_false, reduceCtorEq, Nat.zero_add, Nat.zero_le, decide_eq_true_eq, Bool.not_eq_true', decide_eq_false_iff_not, ite_true, ite_false, Bool.if_false_right, Bool.if_true_left, decide_true, decide_false, Bool.true_or, Bool.or_true, Bool.false_or, Bool.or_false, Bool.true_and, Bool.and_true, Bool.false_and, Bool.and_false, List.length_map, not_true_eq_false, not_false_eq_true, false_and, and_false, bne_self_eq_false, Bool.not_eq_false])
  refine kN _ _ ?_
  clear kN N
  refine seq_gen fun N kN => ?_
  (try simp only [C_law_wide_right, lim, oOwn, oIsiC, view_bl, dep_bl, eqT_tt, eqT_ff, eqT_tf, eqT_ft, eDIn, eDGet, eDNew, eDc, keyT, eMakeX, eCallK, eRev, oRepr, eMeth, eProp, eFld, eMake, sRaise, sPar3, ends, startT, eVar, eC, eOp, tOf, eChain, tAndM, tOrM, tNotM, eAndV, eOrV, eNotV, eIf, aNil, aCons, eTup, eLst, eFrz, frzK, oI, oIC, oSub, oMod, oDiv, oPow, oLt, oLe, oGt, oGe, oAddI', oAddL, oMulI', oAdd, oMul, eNeg, oIsN, oNotN, oIx, atK, mNo, mPart, eSl, eCB, oLen, oInt, oSumL, oMax2, oMin2, oMax1, oMin1, oList, oBls, eCall, eBM, eBM0, isLs, oApp, oPop, oExt, lsOf, tTru, sNext, sSeq, sDrop, sRet, sRetN, sIf, sBreak, sCont, sNever, gN, gNil, gCons, gTup, setT, gSub, sAsg, sPar, sAug, oIxL, sAugS, oAddI, sFor, eLc, iSeq, iRange1, iRange2, iEnum, tYes, oIsi, kdOf, oEq, oNe, eqT_int, eqT_nn, eqT_in, eqT_ni,   atI_0, atI_1, atI_2, atI_3, atI_4, atI_5, atI_6, atI_7, atI_8, atI_m1, ixN_0, ixN_1,   kdN_int, kdN_bool, kdN_str, kdN_list, kdN_tuple, isK, view_int, view_non, dep_int, dep_non, cN, cN2, wipeT,   mk_true, mk_false, put_same, put_put,   List.map_cons, List.map_nil, List.length_cons, List.length_nil, List.replicate, List.cons_append, List.nil_append, List.append_nil, List.set_cons_zero, List.set_cons_succ, List.getElem?_cons_zero, List.getElem?_cons_succ, List.getElem?_nil, Nat.reduceAdd, Nat.reduceSub, Nat.reduceLeDiff, Nat.reduceLT, Nat.reduceEqDiff, Option.isSome_some, Option.isSome_none, true_and, and_true, if_true, if_false, Bool.false_eq_true, Bool.not_true, Bool.not_false, reduceCtorEq, Nat.zero_add, Nat.zero_le, decide_eq_true_eq, Bool.not_eq_true', decide_eq_false_iff_not, ite_true, ite_false, Bool.if_false_right, Bool.if_true_left, decide_true, decide_false, Bool.true_or, Bool.or_true, Bool.false_or, Bool.or_false, Bool.true_and, Bool.and_true, Bool.false_and, Bool.and_false, List.length_map, not_true_eq_false, not_false_eq_true, false_and, and_false, bne_self_eq_false, Bool.not_eq_false])
  refine ⟨F, R, A, B, F', R', A2, B2, rfl, O1, O4, ?_⟩
  (try simp only [C_law_wide_right, lim, oOwn, oIsiC, view_bl, dep_bl, eqT_tt, eqT_ff, eqT_tf, eqT_ft, eDIn, eDGet, eDNew, eDc, keyT, eMakeX, eCallK, eRev, oRepr, eMeth, eProp, eFld, eMake, sRaise, sPar3, ends, startT, eVar, eC, eOp, tOf, eChain, tAndM, tOrM, tNotM, eAndV, eOrV, eNotV, eIf, aNil, aCons, eTup, eLst, eFrz, frzK, oI, oIC, oSub, oMod, oDiv, oPow, oLt, oLe, oGt, oGe, oAddI', oAddL, oMulI', oAdd, oMul, eNeg, oIsN, oNotN, oIx, atK, mNo, mPart, eSl, eCB, oLen, oInt, oSumL, oMax2, oMin2, oMax1, oMin1, oList, oBls, eCall, eBM, eBM0, isLs, oApp, oPop, oExt, lsOf, tTru, sNext, sSeq, sDrop, sRet, sRetN, sIf, sBreak, sCont, sNever, gN, gNil, gCons, gTup, setT, gSub, sAsg, sPar, sAug, oIxL, sAugS, oAddI, sFor, eLc, iSeq, iRange1, iRange2, iEnum, tYes, oIsi, kdOf, oEq, oNe, eqT_int, eqT_nn, eqT_in, eqT_ni,   atI_0, atI_1, atI_2, atI_3, atI_4, atI_5, atI_6, atI_7, atI_8, atI_m1, ixN_0, ixN_1,   kdN_int, kdN_bool, kdN_str, kdN_list, kdN_tuple, isK, view_int, view_non, dep_int, dep_non, cN, cN2, wipeT,   mk_true, mk_false, put_same, put_put,   List.map_cons, List.map_nil, List.length_cons, List.length_nil, List.replicate, List.cons_append, List.nil_append, List.append_nil, List.set_cons_zero, List.set_cons_succ, List.getElem?_cons_zero, List.getElem?_cons_succ, List.getElem?_nil, Nat.reduceAdd, Nat.reduceSub, Nat.reduceLeDiff, Nat.reduceLT, Nat.reduceEqDiff, Option.isSome_some, Option.isSome_none, true_and, and_true, if_true, if_false, Bool.false_eq_true, Bool.not_true, Bool.not_false, reduceCtorEq, Nat.zero_add, Nat.zero_le, decide_eq_true_eq, Bool.not_eq_true', decide_eq_false_iff_not, ite_true, ite_false, Bool.if_false_right, Bool.if_true_left, decide_true, decide_false, Bool.true_or, Bool.or_true, Bool.false_or, Bool.or_false, Bool.true_and, Bool.and_true, Bool.false_and, Bool.and_false, List.length_map, not_true_eq_false, not_false_eq_true, false_and, and_false, bne_self_eq_false, Bool.not_eq_false])
  refine ⟨F', R', A2, B2, F, R, A, B, rfl, O4, O1, ?_⟩
  (try simp only [C_law_wide_right, lim, oOwn, oIsiC, view_bl, dep_bl, eqT_tt, eqT_ff, eqT_tf, eqT_ft, eDIn, eDGet, eDNew, eDc, keyT, eMakeX, eCallK, eRev, oRepr, eMeth, eProp, eFld, eMake, sRaise, sPar3, ends, startT, eVar, eC, eOp, tOf, eChain, tAndM, tOrM, tNotM, eAndV, eOrV, eNotV, eIf, aNil, aCons, eTup, eLst, eFrz, frzK, oI, oIC, oSub, oMod, oDiv, oPow, oLt, oLe, oGt, oGe, oAddI', oAddL, oMulI', oAdd, oMul, eNeg, oIsN, oNotN, oIx, atK, mNo, mPart, eSl, eCB, oLen, oInt, oSumL, oMax2, oMin2, oMax1, oMin1, oList, oBls, eCall, eBM, eBM0, isLs, oApp, oPop, oExt, lsOf, tTru, sNext, sSeq, sDrop, sRet, sRetN, sIf, sBreak, sCont, sNever, gN, gNil, gCons, gTup, setT, gSub, sAsg, sPar, sAug, oIxL, sAugS, oAddI, sFor, eLc, iSeq, iRange1, iRange2, iEnum, tYes, oIsi, kdOf, oEq, oNe, eqT_int, eqT_nn, eqT_in, eqT_ni,   atI_0, atI_1, atI_2, atI_3, atI_4, atI_5, atI_6, atI_7, atI_8, atI_m1, ixN_0, ixN_1,   kdN_int, kdN_bool, kdN_str, kdN_list, kdN_tuple, isK, view_int, view_non, dep_int, dep_non, cN, cN2, wipeT,   mk_true, mk_false, put_same, put_put,   List.map_cons, List.map_nil, List.length_cons, List.length_nil, List.replicate, List.cons_append, List.nil_append, List.append_nil, List.set_cons_zero, List.set_cons_succ, List.getElem?_cons_zero, List.getElem?_cons_succ, List.getElem?_nil, Nat.reduceAdd, Nat.reduceSub, Nat.reduceLeDiff, Nat.reduceLT, Nat.reduceEqDiff, Option.isSome_some, Option.isSome_none, true_and, and_true, if_true, if_false, Bool.false_eq_true, Bool.not_true, Bool.not_false, reduceCtorEq, Nat.zero_add, Nat.zero_le, decide_eq_true_eq, Bool.not_eq_true', decide_eq_false_iff_not, ite_true, ite_false, Bool.if_false_right, Bool.if_true_left, decide_true, decide_false, Bool.true_or, Bool.or_true, Bool.false_or, Bool.or_false, Bool.true_and, Bool.and_true, Bool.false_and, Bool.and_false, List.length_map, not_true_eq_false, not_false_eq_true, false_and, and_false, bne_self_eq_false, Bool.not_eq_false])
  refine kN _ _ ?_
  clear kN N
  refine seq_gen fun N kN => ?_
  (try simp only [C_law_made, lim, oOwn, oIsiC, view_bl, dep_bl, eqT_tt, eqT_ff, eqT_tf, eqT_ft, eDIn, eDGet, eDNew, eDc, keyT, eMakeX, eCallK, eRev, oRepr, eMeth, eProp, eFld, eMake, sRaise, sPar3, ends, startT, eVar, eC, eOp, tOf, eChain, tAndM, tOrM, tNotM, eAndV, eOrV, eNotV, eIf, aNil, aCons, eTup, eLst, eFrz, frzK, oI, oIC, oSub, oMod, oDiv, oPow, oLt, oLe, oGt, oGe, oAddI', oAddL, oMulI', oAdd, oMul, eNeg, oIsN, oNotN, oIx, atK, mNo, mPart, eSl, eCB, oLen, oInt, oSumL, oMax2, oMin2, oMax1, oMin1, oList, oBls, eCall, eBM, eBM0, isLs, oApp, oPop, oExt, lsOf, tTru, sNext, sSeq, sDrop, sRet, sRetN, sIf, sBreak, sCont, sNever, gN, gNil, gCons, gTup, setT, gSub, sAsg, sPar, sAug, oIxL, sAugS, oAddI, sFor, eLc, iSeq, iRange1, iRange2, iEnum, tYes, oIsi, kdOf, oEq, oNe, eqT_int, eqT_nn, eqT_in, eqT_ni,   atI_0, atI_1, atI_2, atI_3, atI_4, atI_5, atI_6, atI_7, atI_8, atI_m1, ixN_0, ixN_1,   kdN_int, kdN_bool, kdN_str, kdN_list, kdN_tuple, isK, view_int, view_non, dep_int, dep_non, cN, cN2, wipeT,   mk_true, mk_false, put_same, put_put,   List.map_cons, List.map_nil, List.length_cons, List.length_nil, List.replicate, List.cons_append, List.nil_append, List.append_nil, List.set_cons_zero, List.set_cons_succ, List.getElem?_cons_zero, List.getElem?_cons_succ, List.getElem?_nil, Nat.reduceAdd, Nat.reduceSub, Nat.reduceLeDiff, Nat.reduceLT, Nat.reduceEqDiff, Option.isSome_some, Option.isSome_none, true_and, and_true, if_true, if_false, Bool.false_eq_true, Bool.not_true, Bool.not_false, reduceCtorEq, Nat.zero_add, Nat.zero_le, decide_eq_true_eq, Bool.not_eq_true', decide_eq_false_iff_not, ite_true, ite_false, Bool.if_false_right, Bool.if_true_left, decide_true, decide_false, Bool.true_or, Bool.or_true, Bool.false_or, Bool.or_false, Bool.true_and, Bool.and_true, Bool.false_and, Bool.and_false, List.length_map, not_true_eq_false, not_false_eq_true, false_and, and_false, bne_self_eq_false, Bool.not_eq_false])
  refine ⟨F, R, A, B, rfl, O1, fun p4 np4 => ?_⟩
  (try simp only [del_put np4, lim, oOwn, oIsiC, view_bl, dep_bl, eqT_tt, eqT_ff, eqT_tf, eqT_ft, eDIn, eDGet, eDNew, eDc, keyT, eMakeX, eCallK, eRev, oRepr, eMeth, eProp, eFld, eMake, sRaise, sPar3, ends, startT, eVar, eC, eOp, tOf, eChain, tAndM, tOrM, tNotM, eAndV, eOrV, eNotV, eIf, aNil, aCons, eTup, eLst, eFrz, frzK, oI, oIC, oSub, oMod, oDiv, oPow, oLt, oLe, oGt, oGe, oAddI', oAddL, oMulI', oAdd, oMul, eNeg, oIsN, oNotN, oIx, atK, mNo, mPart, eSl, eCB, oLen, oInt, oSumL, oMax2, oMin2, oMax1, oMin1, oList, oBls, eCall, eBM, eBM0, isLs, oApp, oPop, oExt, lsOf, tTru, sNext, sSeq, sDrop, sRet, sRetN, sIf, sBreak, sCont, sNever, gN, gNil, gCons, gTup, setT, gSub, sAsg, sPar, sAug, oIxL, sAugS, oAddI, sFor, eLc, iSeq, iRange1, iRange2, iEnum, tYes, oIsi, kdOf, oEq, oNe, eqT_int, eqT_nn, eqT_in, eqT_ni,   atI_0, atI_1, atI_2, atI_3, atI_4, atI_5, atI_6, atI_7, atI_8, atI_m1, ixN_0, ixN_1,   kdN_int, kdN_bool, kdN_str, kdN_list, kdN_tuple, isK, view_int, view_non, dep_int, dep_non, cN, cN2, wipeT,   mk_true, mk_false, put_same, put_put,   List.map_cons, List.map_nil, List.length_cons, List.length_nil, List.replicate, List.cons_append, List.nil_append, List.append_nil, List.set_cons_zero, List.set_cons_succ, List.getElem?_cons_zero, List.getElem?_cons_succ, List.getElem?_nil, Nat.reduceAdd, Nat.reduceSub, Nat.reduceLeDiff, Nat.reduceLT, Nat.reduceEqDiff, Option.isSome_some, Option.isSome_none, true_and, and_true, if_true, if_false, Bool.false_eq_true, Bool.not_true, Bool.not_false, reduceCtorEq, Nat.zero_add, Nat.zero_le, decide_eq_true_eq, Bool.not_eq_true', decide_eq_false_iff_not, ite_true, ite_false, Bool.if_false_right, Bool.if_true_left, decide_true, decide_false, Bool.true_or, Bool.or_true, Bool.false_or, Bool.or_false, Bool.true_and, Bool.and_true, Bool.false_and, Bool.and_false, List.length_map, not_true_eq_false, not_false_eq_true, false_and, and_false, bne_self_eq_false, Bool.not_eq_false])
  refine ⟨F', R', A, B, rfl, O3, fun p5 np5 => ?_⟩
  (try simp only [del_put np5, insOf, C_Book___eq__, lim, oOwn, oIsiC, view_bl, dep_bl, eqT_tt, eqT_ff, eqT_tf, eqT_ft, eDIn, eDGet, eDNew, eDc, keyT, eMakeX, eCallK, eRev, oRepr, eMeth, eProp, eFld, eMake, sRaise, sPar3, ends, startT, eVar, eC, eOp, tOf, eChain, tAndM, tOrM, tNotM, eAndV, eOrV, eNotV, eIf, aNil, aCons, eTup, eLst, eFrz, frzK, oI, oIC, oSub, oMod, oDiv, oPow, oLt, oLe, oGt, oGe, oAddI', oAddL, oMulI', oAdd, oMul, eNeg, oIsN, oNotN, oIx, atK, mNo, mPart, eSl, eCB, oLen, oInt, oSumL, oMax2, oMin2, oMax1, oMin1, oList, oBls, eCall, eBM, eBM0, isLs, oApp, oPop, oExt, lsOf, tTru, sNext, sSeq, sDrop, sRet, sRetN, sIf, sBreak, sCont, sNever, gN, gNil, gCons, gTup, setT, gSub, sAsg, sPar, sAug, oIxL, sAugS, oAddI, sFor, eLc, iSeq, iRange1, iRange2, iEnum, tYes, oIsi, kdOf, oEq, oNe, eqT_int, eqT_nn, eqT_in, eqT_ni,   atI_0, atI_1, atI_2, atI_3, atI_4, atI_5, atI_6, atI_7, atI_8, atI_m1, ixN_0, ixN_1,   kdN_int, kdN_bool, kdN_str, kdN_list, kdN_tuple, isK, view_int, view_non, dep_int, dep_non, cN, cN2, wipeT,   mk_true, mk_false, put_same, put_put,   List.map_cons, List.map_nil, List.length_cons, List.length_nil, List.replicate, List.cons_append, List.nil_append, List.append_nil, List.set_cons_zero, List.set_cons_succ, List.getElem?_cons_zero, List.getElem?_cons_succ, List.getElem?_nil, Nat.reduceAdd, Nat.reduceSub, Nat.reduceLeDiff, Nat.reduceLT, Nat.reduceEqDiff, Option.isSome_some, Option.isSome_none, true_and, and_true, if_true, if_false, Bool.false_eq_true, Bool.not_true, Bool.not_false, reduceCtorEq, Nat.zero_add, Nat.zero_le, decide_eq_true_eq, Bool.not_eq_true', decide_eq_false_iff_not, ite_true, ite_false, Bool.if_false_right, Bool.if_true_left, decide_true, decide_false, Bool.true_or, Bool.or_true, Bool.false_or, Bool.or_false, Bool.true_and, Bool.and_true, Bool.false_and, Bool.and_false, List.length_map, not_true_eq_false, not_false_eq_true, false_and, and_false, bne_self_eq_false, Bool.not_eq_false])
  refine ⟨_, _, F, R, A, B, F', R', A, B, rfl, rfl, rfl, ?_⟩
  refine ⟨rfl, rfl, ?_⟩
  have ne2 : eqT (.bl (eqT (ptT F R A B) (ptT F' R' A B))) (.bl (eqT (view h'' (T.tup [T.int F, T.int R, T.tup [T.int A, T.int B]])) (view h'' (T.tup [T.int F', T.int R', T.tup [T.int A, T.int B]])))) = true := ne1 _
  (try simp only [ne2, lim, oOwn, oIsiC, view_bl, dep_bl, eqT_tt, eqT_ff, eqT_tf, eqT_ft, eDIn, eDGet, eDNew, eDc, keyT, eMakeX, eCallK, eRev, oRepr, eMeth, eProp, eFld, eMake, sRaise, sPar3, ends, startT, eVar, eC, eOp, tOf, eChain, tAndM, tOrM, tNotM, eAndV, eOrV, eNotV, eIf, aNil, aCons, eTup, eLst, eFrz, frzK, oI, oIC, oSub, oMod, oDiv, oPow, oLt, oLe, oGt, oGe, oAddI', oAddL, oMulI', oAdd, oMul, eNeg, oIsN, oNotN, oIx, atK, mNo, mPart, eSl, eCB, oLen, oInt, oSumL, oMax2, oMin2, oMax1, oMin1, oList, oBls, eCall, eBM, eBM0, isLs, oApp, oPop, oExt, lsOf, tTru, sNext, sSeq, sDrop, sRet, sRetN, sIf, sBreak, sCont, sNever, gN, gNil, gCons, gTup, setT, gSub, sAsg, sPar, sAug, oIxL, sAugS, oAddI, sFor, eLc, iSeq, iRange1, iRange2, iEnum, tYes, oIsi, kdOf, oEq, oNe, eqT_int, eqT_nn, eqT_in, eqT_ni,   atI_0, atI_1, atI_2, atI_3, atI_4, atI_5, atI_6, atI_7, atI_8, atI_m1, ixN_0, ixN_1,   kdN_int, kdN_bool, kdN_str, kdN_list, kdN_tuple, isK, view_int, view_non, dep_int, dep_non, cN, cN2, wipeT,   mk_true, mk_false, put_same, put_put,   List.map_cons, List.map_nil, List.length_cons, List.length_nil, List.replicate, List.cons_append, List.nil_append, List.append_nil, List.set_cons_zero, List.set_cons_succ, List.getElem?_cons_zero, List.getElem?_cons_succ, List.getElem?_nil, Nat.reduceAdd, Nat.reduceSub, Nat.reduceLeDiff, Nat.reduceLT, Nat.reduceEqDiff, Option.isSome_some, Option.isSome_none, true_and, and_true, if_true, if_false, Bool.false_eq_true, Bool.not_true, Bool.not_false, reduceCtorEq, Nat.zero_add, Nat.zero_le, decide_eq_true_eq, Bool.not_eq_true', decide_eq_false_iff_not, ite_true, ite_false, Bool.if_false_right, Bool.if_true_left, decide_true, decide_false, Bool.true_or, Bool.or_true, Bool.false_or, Bool.or_false, Bool.true_and, Bool.and_true, Bool.false_and, Bool.and_false, List.length_map, not_true_eq_false, not_false_eq_true, false_and, and_false, bne_self_eq_false, Bool.not_eq_false])
  refine kN _ _ ?_
  clear kN N ne2
  (try simp only [C_law_made, lim, oOwn, oIsiC, view_bl, dep_bl, eqT_tt, eqT_ff, eqT_tf, eqT_ft, eDIn, eDGet, eDNew, eDc, keyT, eMakeX, eCallK, eRev, oRepr, eMeth, eProp, eFld, eMake, sRaise, sPar3, ends, startT, eVar, eC, eOp, tOf, eChain, tAndM, tOrM, tNotM, eAndV, eOrV, eNotV, eIf, aNil, aCons, eTup, eLst, eFrz, frzK, oI, oIC, oSub, oMod, oDiv, oPow, oLt, oLe, oGt, oGe, oAddI', oAddL, oMulI', oAdd, oMul, eNeg, oIsN, oNotN, oIx, atK, mNo, mPart, eSl, eCB, oLen, oInt, oSumL, oMax2, oMin2, oMax1, oMin1, oList, oBls, eCall, eBM, eBM0, isLs, oApp, oPop, oExt, lsOf, tTru, sNext, sSeq, sDrop, sRet, sRetN, sIf, sBreak, sCont, sNever, gN, gNil, gCons, gTup, setT, gSub, sAsg, sPar, sAug, oIxL, sAugS, oAddI, sFor, eLc, iSeq, iRange1, iRange2, iEnum, tYes, oIsi, kdOf, oEq, oNe, eqT_int, eqT_nn, eqT_in, eqT_ni,   atI_0, atI_1, atI_2, atI_3, atI_4, atI_5, atI_6, atI_7, atI_8, atI_m1, ixN_0, ixN_1,   kdN_int, kdN_bool, kdN_str, kdN_list, kdN_tuple, isK, view_int, view_non, dep_int, dep_non, cN, cN2, wipeT,   mk_true, mk_false, put_same, put_put,   List.map_cons, List.map_nil, List.length_cons, List.length_nil, List.replicate, List.cons_append, List.nil_append, List.append_nil, List.set_cons_zero, List.set_cons_succ, List.getElem?_cons_zero, List.getElem?_cons_succ, List.getElem?_nil, Nat.reduceAdd, Nat.reduceSub, Nat.reduceLeDiff, Nat.reduceLT, Nat.reduceEqDiff, Option.isSome_some, Option.isSome_none, true_and, and_true, if_true, if_false, Bool.false_eq_true, Bool.not_true, Bool.not_false, reduceCtorEq, Nat.zero_add, Nat.zero_le, decide_eq_true_eq, Bool.not_eq_true', decide_eq_false_iff_not, ite_true, ite_false, Bool.if_false_right, Bool.if_true_left, decide_true, decide_false, Bool.true_or, Bool.or_true, Bool.false_or, Bool.or_false, Bool.true_and, Bool.and_true, Bool.false_and, Bool.and_false, List.length_map, not_true_eq_false, not_false_eq_true, false_and, and_false, bne_self_eq_false, Bool.not_eq_false])
  refine ⟨F, R, A, B, rfl, O1, fun p4 np4 => ?_⟩
  (try simp only [del_put np4, lim, oOwn, oIsiC, view_bl, dep_bl, eqT_tt, eqT_ff, eqT_tf, eqT_ft, eDIn, eDGet, eDNew, eDc, keyT, eMakeX, eCallK, eRev, oRepr, eMeth, eProp, eFld, eMake, sRaise, sPar3, ends, startT, eVar, eC, eOp, tOf, eChain, tAndM, tOrM, tNotM, eAndV, eOrV, eNotV, eIf, aNil, aCons, eTup, eLst, eFrz, frzK, oI, oIC, oSub, oMod, oDiv, oPow, oLt, oLe, oGt, oGe, oAddI', oAddL, oMulI', oAdd, oMul, eNeg, oIsN, oNotN, oIx, atK, mNo, mPart, eSl, eCB, oLen, oInt, oSumL, oMax2, oMin2, oMax1, oMin1, oList, oBls, eCall, eBM, eBM0, isLs, oApp, oPop, oExt, lsOf, tTru, sNext, sSeq, sDrop, sRet, sRetN, sIf, sBreak, sCont, sNever, gN, gNil, gCons, gTup, setT, gSub, sAsg, sPar, sAug, oIxL, sAugS, oAddI, sFor, eLc, iSeq, iRange1, iRange2, iEnum, tYes, oIsi, kdOf, oEq, oNe, eqT_int, eqT_nn, eqT_in, eqT_ni,   atI_0, atI_1, atI_2, atI_3, atI_4, atI_5, atI_6, atI_7, atI_8, atI_m1, ixN_0, ixN_1,   kdN_int, kdN_bool, kdN_str, kdN_list, kdN_tuple, isK, view_int, view_non, dep_int, dep_non, cN, cN2, wipeT,   mk_true, mk_false, put_same, put_put,   List.map_cons, List.map_nil, List.length_cons, List.length_nil, List.replicate, List.cons_append, List.nil_append, List.append_nil, List.set_cons_zero, List.set_cons_succ, List.getElem?_cons_zero, List.getElem?_cons_succ, List.getElem?_nil, Nat.reduceAdd, Nat.reduceSub, Nat.reduceLeDiff, Nat.reduceLT, Nat.reduceEqDiff, Option.isSome_some, Option.isSome_none, true_and, and_true, if_true, if_false, Bool.false_eq_true, Bool.not_true, Bool.not_false, reduceCtorEq, Nat.zero_add, Nat.zero_le, decide_eq_true_eq, Bool.not_eq_true', decide_eq_false_iff_not, ite_true, ite_false, Bool.if_false_right, Bool.if_true_left, decide_true, decide_false, Bool.true_or, Bool.or_true, Bool.false_or, Bool.or_false, Bool.true_and, Bool.and_true, Bool.false_and, Bool.and_false, List.length_map, not_true_eq_false, not_false_eq_true, false_and, and_false, bne_self_eq_false, Bool.not_eq_false])
  refine ⟨F, R, A, B, rfl, O1, fun p5 np5 => ?_⟩
  (try simp only [del_put np5, insOf, C_Book___le__, lim, oOwn, oIsiC, view_bl, dep_bl, eqT_tt, eqT_ff, eqT_tf, eqT_ft, eDIn, eDGet, eDNew, eDc, keyT, eMakeX, eCallK, eRev, oRepr, eMeth, eProp, eFld, eMake, sRaise, sPar3, ends, startT, eVar, eC, eOp, tOf, eChain, tAndM, tOrM, tNotM, eAndV, eOrV, eNotV, eIf, aNil, aCons, eTup, eLst, eFrz, frzK, oI, oIC, oSub, oMod, oDiv, oPow, oLt, oLe, oGt, oGe, oAddI', oAddL, oMulI', oAdd, oMul, eNeg, oIsN, oNotN, oIx, atK, mNo, mPart, eSl, eCB, oLen, oInt, oSumL, oMax2, oMin2, oMax1, oMin1, oList, oBls, eCall, eBM, eBM0, isLs, oApp, oPop, oExt, lsOf, tTru, sNext, sSeq, sDrop, sRet, sRetN, sIf, sBreak, sCont, sNever, gN, gNil, gCons, gTup, setT, gSub, sAsg, sPar, sAug, oIxL, sAugS, oAddI, sFor, eLc, iSeq, iRange1, iRange2, iEnum, tYes, oIsi, kdOf, oEq, oNe, eqT_int, eqT_nn, eqT_in, eqT_ni,   atI_0, atI_1, atI_2, atI_3, atI_4, atI_5, atI_6, atI_7, atI_8, atI_m1, ixN_0, ixN_1,   kdN_int, kdN_bool, kdN_str, kdN_list, kdN_tuple, isK, view_int, view_non, dep_int, dep_non, cN, cN2, wipeT,   mk_true, mk_false, put_same, put_put,   List.map_cons, List.map_nil, List.length_cons, List.length_nil, List.replicate, List.cons_append, List.nil_append, List.append_nil, List.set_cons_zero, List.set_cons_succ, List.getElem?_cons_zero, List.getElem?_cons_succ, List.getElem?_nil, Nat.reduceAdd, Nat.reduceSub, Nat.reduceLeDiff, Nat.reduceLT, Nat.reduceEqDiff, Option.isSome_some, Option.isSome_none, true_and, and_true, if_true, if_false, Bool.false_eq_true, Bool.not_true, Bool.not_false, reduceCtorEq, Nat.zero_add, Nat.zero_le, decide_eq_true_eq, Bool.not_eq_true', decide_eq_false_iff_not, ite_true, ite_false, Bool.if_false_right, Bool.if_true_left, decide_true, decide_false, Bool.true_or, Bool.or_true, Bool.false_or, Bool.or_false, Bool.true_and, Bool.and_true, Bool.false_and, Bool.and_false, List.length_map, not_true_eq_false, not_false_eq_true, false_and, and_false, bne_self_eq_false, Bool.not_eq_false])
  refine ⟨_, _, F, R, A, B, F, R, A, B, rfl, rfl, rfl, O1, O1, fun u2 hu => ?_⟩
  have : u2 = true := hu.mpr fun k _ => Int.le_refl _
  subst this
  (try simp only [ends, lim, oOwn, oIsiC, view_bl, dep_bl, eqT_tt, eqT_ff, eqT_tf, eqT_ft, eDIn, eDGet, eDNew, eDc, keyT, eMakeX, eCallK, eRev, oRepr, eMeth, eProp, eFld, eMake, sRaise, sPar3, ends, startT, eVar, eC, eOp, tOf, eChain, tAndM, tOrM, tNotM, eAndV, eOrV, eNotV, eIf, aNil, aCons, eTup, eLst, eFrz, frzK, oI, oIC, oSub, oMod, oDiv, oPow, oLt, oLe, oGt, oGe, oAddI', oAddL, oMulI', oAdd, oMul, eNeg, oIsN, oNotN, oIx, atK, mNo, mPart, eSl, eCB, oLen, oInt, oSumL, oMax2, oMin2, oMax1, oMin1, oList, oBls, eCall, eBM, eBM0, isLs, oApp, oPop, oExt, lsOf, tTru, sNext, sSeq, sDrop, sRet, sRetN, sIf, sBreak, sCont, sNever, gN, gNil, gCons, gTup, setT, gSub, sAsg, sPar, sAug, oIxL, sAugS, oAddI, sFor, eLc, iSeq, iRange1, iRange2, iEnum, tYes, oIsi, kdOf, oEq, oNe, eqT_int, eqT_nn, eqT_in, eqT_ni,   atI_0, atI_1, atI_2, atI_3, atI_4, atI_5, atI_6, atI_7, atI_8, atI_m1, ixN_0, ixN_1,   kdN_int, kdN_bool, kdN_str, kdN_list, kdN_tuple, isK, view_int, view_non, dep_int, dep_non, cN, cN2, wipeT,   mk_true, mk_false, put_same, put_put,   List.map_cons, List.map_nil, List.length_cons, List.length_nil, List.replicate, List.cons_append, List.nil_append, List.append_nil, List.set_cons_zero, List.set_cons_succ, List.getElem?_cons_zero, List.getElem?_cons_succ, List.getElem?_nil, Nat.reduceAdd, Nat.reduceSub, Nat.reduceLeDiff, Nat.reduceLT, Nat.reduceEqDiff, Option.isSome_some, Option.isSome_none, true_and, and_true, if_true, if_false, Bool.false_eq_true, Bool.not_true, Bool.not_false, reduceCtorEq, Nat.zero_add, Nat.zero_le, decide_eq_true_eq, Bool.not_eq_true', decide_eq_false_iff_not, ite_true, ite_false, Bool.if_false_right, Bool.if_true_left, decide_true, decide_false, Bool.true_or, Bool.or_true, Bool.false_or, Bool.or_false, Bool.true_and, Bool.and_true, Bool.false_and, Bool.and_false, List.length_map, not_true_eq_false, not_false_eq_true, false_and, and_false, bne_self_eq_false, Bool.not_eq_false])
  exact ⟨_, _, _, _, _, _, _, _, rfl⟩
end
end TL

set_option maxHeartbeats 4000000
namespace TL
open PySem L2
section
variable {P : Program} {w : World} {K : PySem.W.Frag} {mg : Str → Option Value} {base : Heap} {a : Ad}
theorem sci_InvalidBook : FnScope ["self", "part"] ["self", "part"] (defScope si_InvalidBook) := ⟨rfl, rfl, rfl, by decide +kernel, rfl, by decide +kernel, by decide +kernel⟩
theorem okI_InvalidBook (T : Tx K mg a) : FnOk P w K mg base (L2.CX P w) 1 a.i_InvalidBook a.e_InvalidBook ["self", "part"] (spInit a.c_InvalidBook "part") := init_ok T.FI_InvalidBook sci_InvalidBook T.o_InvalidBook T.n_InvalidBook rfl (Or.inl rfl) (Or.inl rfl) (by decide) (by decide) (fun _ _ => rfl)
theorem sc_is_integer : FnScope N_is_integer ["thing", "least", "most"] (defScope s_is_integer) := ⟨rfl, rfl, rfl, by decide +kernel, rfl, by decide +kernel, by decide +kernel⟩
theorem ok_is_integer (T : Tx K mg a) : FnOk P w K mg base (L2.CX P w) 1 a.f_is_integer a.d_is_integer ["thing", "least", "most"] (liftSp K 3 C_is_integer) := by
  refine fn_ok T.F_is_integer sc_is_integer (by decide) (fun cdv A outer s H E hr => ?_) pl_is_integer
  have tk : Takes (cxOf (L2.CX P w) P w K mg base N_is_integer "is_integer" (defScope s_is_integer) a.f_is_integer cdv A outer s H E) (fun cls d _ H => E cls d H) := takes_of rfl rfl rfl rfl
  exact (jss_one (js_ret (j_and (j_cb call_isi c_isi rfl T.z_isinstance (by decide +kernel) (ja_cons (j_var 0) (ja_cons (j_ty rfl T.z_int (by decide +kernel)) ja_nil))) (j_and (j_not (j_cb call_isi c_isi rfl T.z_isinstance (by decide +kernel) (ja_cons (j_var 0) (ja_cons (j_ty rfl T.z_bool (by decide +kernel)) ja_nil)))) (j_one (j_chain op_le p_le op_le p_le (j_var 1) (j_var 0) (j_var 2)))))))
theorem sc_part_of : FnScope N_part_of ["share", "hold"] (defScope s_part_of) := ⟨rfl, rfl, rfl, by decide +kernel, rfl, by decide +kernel, by decide +kernel⟩
theorem ok_part_of (T : Tx K mg a) : FnOk P w K mg base (L2.CX P w) 1 a.f_part_of a.d_part_of ["share", "hold"] (liftSp K 2 C_part_of) := by
  refine fn_ok T.F_part_of sc_part_of (by decide) (fun cdv A outer s H E hr => ?_) pl_part_of
  have tk : Takes (cxOf (L2.CX P w) P w K mg base N_part_of "part_of" (defScope s_part_of) a.f_part_of cdv A outer s H E) (fun cls d _ H => E cls d H) := takes_of rfl rfl rfl rfl
  exact (jss_cons (js_asg (j_var 0) (jg_tup rfl (jgs_cons (jg_name (i := 2) sc_part_of.nd rfl (by first | exact Or.inl rfl | exact Or.inr rfl)) (jgs_cons (jg_name (i := 3) sc_part_of.nd rfl (by first | exact Or.inl rfl | exact Or.inr rfl)) jgs_nil))))
    (jss_one (js_ret (j_neg (j_op op_fdivW p_div (j_op o_mul (p_mul true) (j_neg (j_var 1)) (j_var 2)) (j_var 3))))))
theorem sc_least_hold : FnScope N_least_hold ["share", "many"] (defScope s_least_hold) := ⟨rfl, rfl, rfl, by decide +kernel, rfl, by decide +kernel, by decide +kernel⟩
theorem ok_least_hold (T : Tx K mg a) : FnOk P w K mg base (L2.CX P w) 1 a.f_least_hold a.d_least_hold ["share", "many"] (liftSp K 2 C_least_hold) := by
  refine fn_ok T.F_least_hold sc_least_hold (by decide) (fun cdv A outer s H E hr => ?_) pl_least_hold
  have tk : Takes (cxOf (L2.CX P w) P w K mg base N_least_hold "least_hold" (defScope s_least_hold) a.f_least_hold cdv A outer s H E) (fun cls d _ H => E cls d H) := takes_of rfl rfl rfl rfl
  exact (jss_cons (js_asg (j_var 0) (jg_tup rfl (jgs_cons (jg_name (i := 2) sc_least_hold.nd rfl (by first | exact Or.inl rfl | exact Or.inr rfl)) (jgs_cons (jg_name (i := 3) sc_least_hold.nd rfl (by first | exact Or.inl rfl | exact Or.inr rfl)) jgs_nil))))
    (jss_one (js_ret (j_op o_add (p_add false) (j_op op_fdivW p_div (j_op o_mul (p_mul true) (j_op op_sub p_sub (j_var 1) j_int) (j_var 3)) (j_var 2)) j_int))))
theorem sc_Book_parts : FnScope N_Book_parts ["self"] (defScope s_Book_parts) := ⟨rfl, rfl, rfl, by decide +kernel, rfl, by decide +kernel, by decide +kernel⟩
theorem ok_Book_parts (T : Tx K mg a) : FnOk P w K mg base (L2.CX P w) 1 a.f_Book_parts a.d_Book_parts ["self"] (liftSp K 1 (C_Book_parts a)) := by
  refine fn_ok T.F_Book_parts sc_Book_parts (by decide) (fun cdv A outer s H E hr => ?_) (pl_Book_parts T)
  have tk : Takes (cxOf (L2.CX P w) P w K mg base N_Book_parts "Book.parts" (defScope s_Book_parts) a.f_Book_parts cdv A outer s H E) (fun cls d _ H => E cls d H) := takes_of rfl rfl rfl rfl
  exact (jss_one (js_ret (j_tup (ja_cons (j_fld T.cl_Book T.na_Book_own_first (j_var 0)) (ja_cons (j_fld T.cl_Book T.na_Book_own_roof (j_var 0)) (ja_cons (j_fld T.cl_Book T.na_Book_own_share (j_var 0)) ja_nil))))))
theorem sc_law_hand : FnScope N_law_hand ["_law_script", "_law_k"] (defScope s_law_hand) := ⟨rfl, rfl, rfl, by decide +kernel, rfl, by decide +kernel, by decide +kernel⟩
theorem ok_law_hand (T : Tx K mg a) : FnOk P w K mg base (L2.CX P w) 1 a.f_law_hand a.d_law_hand ["_law_script", "_law_k"] (liftSp K 2 CHand) := by
  refine fn_wk (fn_ok T.F_law_hand sc_law_hand (by decide) (fun cdv A outer s H E hr => ?_) pl_law_hand) hand_wk
  have tk : Takes (cxOf (L2.CX P w) P w K mg base N_law_hand "_law_hand" (defScope s_law_hand) a.f_law_hand cdv A outer s H E) (fun cls d _ H => E cls d H) := takes_of rfl rfl rfl rfl
  exact (jss_cons (js_set (i := 2) sc_law_hand.nd rfl (by first | exact Or.inl rfl | exact Or.inr rfl) (j_ix (j_op o_add (p_add true) (j_sl true (j_var 0) (jo_some (j_var 1)) (jo_some (j_op o_add (p_add true) (j_var 1) j_int))) (j_pure (t := .lst [.int 0]) (j_lst true (ja_cons j_int ja_nil)) (pu_lst (pa_c pu_c pa_n) (by decide)))) j_int))
    (jss_cons (js_set (i := 3) sc_law_hand.nd rfl (by first | exact Or.inl rfl | exact Or.inr rfl) (j_op op_mod p_mod (j_op o_mul (p_mul true) (j_op o_add (p_add true) (j_op o_add (p_add true) (j_op op_mod p_mod (j_cty call_int1 c_int rfl T.z_int (by decide +kernel) (ja_cons (j_var 2) ja_nil)) j_int) (j_op o_mul (p_mul true) j_int (j_var 1))) j_int) j_int) j_int))
    (jss_one (js_ret (j_lst false (ja_cons (j_op o_mul (p_mul true) (j_cty call_int1 c_int rfl T.z_int (by decide +kernel) (ja_cons (j_cmp op_ge p_ge (j_var 2) (j_pure (t := .int (10 ^ 18)) (j_op op_pow p_pow j_int j_int) (pu_pow pu_c pu_c (by decide))) (nomark _)) ja_nil)) (j_var 2)) (ja_cons (j_var 3) ja_nil)))))))
theorem sc_law_draw : FnScope N_law_draw ["_law_pool", "_law_many"] (defScope s_law_draw) := ⟨rfl, rfl, rfl, by decide +kernel, rfl, by decide +kernel, by decide +kernel⟩
theorem ok_law_draw (T : Tx K mg a) : FnOk P w K mg base (L2.CX P w) 1 a.f_law_draw a.d_law_draw ["_law_pool", "_law_many"] (liftSp K 2 CDraw) := by
  refine fn_wk (fn_ok T.F_law_draw sc_law_draw (by decide) (fun cdv A outer s H E hr => ?_) pl_law_draw) draw_wk
  have tk : Takes (cxOf (L2.CX P w) P w K mg base N_law_draw "_law_draw" (defScope s_law_draw) a.f_law_draw cdv A outer s H E) (fun cls d _ H => E cls d H) := takes_of rfl rfl rfl rfl
  exact (jss_cons (js_if (jt_cmp op_gt p_gt (j_ix (j_var 0) j_int) j_int (nomark _)) (jss_cons (js_set (i := 2) sc_law_draw.nd rfl (by first | exact Or.inl rfl | exact Or.inr rfl) (j_op op_mod p_mod (j_cty call_int1 c_int rfl T.z_int (by decide +kernel) (ja_cons (j_ix (j_var 0) j_int) ja_nil)) (j_var 1)))
    (jss_cons (js_asg (j_op op_fdivW p_div (j_ix (j_var 0) j_int) (j_var 1)) (jg_sub (j_var 0) j_int))
    (jss_one (js_ret (j_var 2))))) jss_nil)
    (jss_cons (js_asg (j_op op_mod p_mod (j_cty call_int1 c_int rfl T.z_int (by decide +kernel) (ja_cons (j_op o_add (p_add true) (j_op o_mul (p_mul true) (j_ix (j_var 0) j_int) j_int) j_int) ja_nil)) j_int) (jg_sub (j_var 0) j_int))
    (jss_one (js_ret (j_op op_mod p_mod (j_op op_fdivW p_div (j_op op_mod p_mod (j_cty call_int1 c_int rfl T.z_int (by decide +kernel) (ja_cons (j_op o_mul (p_mul true) (j_ix (j_var 0) j_int) (j_ix (j_var 0) j_int)) ja_nil)) j_int) j_int) (j_var 1))))))
theorem sc_law_step : FnScope N_law_step ["_law_parts_here", "_law_hold"] (defScope s_law_step) := ⟨rfl, rfl, rfl, by decide +kernel, rfl, by decide +kernel, by decide +kernel⟩
theorem ok_law_step (T : Tx K mg a) : FnOk P w K mg base (L2.CX P w) 1 a.f_law_step a.d_law_step ["_law_parts_here", "_law_hold"] (liftSp K 2 C_law_step) := by
  refine fn_ok T.F_law_step sc_law_step (by decide) (fun cdv A outer s H E hr => ?_) pl_law_step
  have tk : Takes (cxOf (L2.CX P w) P w K mg base N_law_step "_law_step" (defScope s_law_step) a.f_law_step cdv A outer s H E) (fun cls d _ H => E cls d H) := takes_of rfl rfl rfl rfl
  exact (jss_cons (js_asg (j_var 0) (jg_tup rfl (jgs_cons (jg_name (i := 2) sc_law_step.nd rfl (by first | exact Or.inl rfl | exact Or.inr rfl)) (jgs_cons (jg_name (i := 3) sc_law_step.nd rfl (by first | exact Or.inl rfl | exact Or.inr rfl)) (jgs_cons (jg_name (i := 4) sc_law_step.nd rfl (by first | exact Or.inl rfl | exact Or.inr rfl)) jgs_nil)))))
    (jss_cons (js_set (i := 5) sc_law_step.nd rfl (by first | exact Or.inl rfl | exact Or.inr rfl) (j_op op_fdivW p_div (j_op o_mul (p_mul true) (j_var 1) (j_ix (j_var 4) j_int)) (j_ix (j_var 4) j_int)))
    (jss_cons (js_if (jt_cmp op_lt p_lt (j_op o_mul (p_mul true) (j_var 5) (j_ix (j_var 4) j_int)) (j_op o_mul (p_mul true) (j_var 1) (j_ix (j_var 4) j_int)) (nomark _)) (jss_one (js_set (i := 5) sc_law_step.nd rfl (by first | exact Or.inl rfl | exact Or.inr rfl) (j_op o_add (p_add true) (j_var 5) j_int))) jss_nil)
    (jss_cons (js_if (jt_cmp op_lt p_lt (j_var 5) (j_var 2) (nomark _)) (jss_one (js_ret (j_var 2))) jss_nil)
    (jss_one (js_ret (j_if (jt_cmp op_lt p_lt (j_var 5) (j_var 3) (nomark _)) (j_var 5) (j_var 3))))))))
theorem sc_is_share : FnScope N_is_share ["thing"] (defScope s_is_share) := ⟨rfl, rfl, rfl, by decide +kernel, rfl, by decide +kernel, by decide +kernel⟩
theorem ok_is_share (T : Tx K mg a) : FnOk P w K mg base (L2.CX P w) 2 a.f_is_share a.d_is_share ["thing"] (liftSp K 1 C_is_share) := by
  refine fn_ok T.F_is_share sc_is_share (by decide) (fun cdv A outer s H E hr => ?_) pl_is_share
  have tk : Takes (cxOf (L2.CX P w) P w K mg base N_is_share "is_share" (defScope s_is_share) a.f_is_share cdv A outer s H E) (fun cls d _ H => E cls d H) := takes_of rfl rfl rfl rfl
  exact (jss_cons (js_if (jt_w (jw_or (jt_not (jt_tru (j_cb call_isi c_isi rfl T.z_isinstance (by decide +kernel) (ja_cons (j_var 0) (ja_cons (j_ty rfl T.z_tuple (by decide +kernel)) ja_nil))))) (jw_or1 (jt_cmp (op_neD hr.units) p_ne (j_cb call_len c_len rfl T.z_len (by decide +kernel) (ja_cons (j_var 0) ja_nil)) j_int (nomark _))))) (jss_one (js_ret j_bl)) jss_nil)
    (jss_one (js_ret (j_and (j_frz (j_call (ok_is_integer T) (hr.mono (by decide)) rfl T.g_is_integer T.F_is_integer.kp T.b_is_integer (pxT tk) (ja_cons (j_ix (j_var 0) j_int) (ja_cons j_int (ja_cons (j_globI rfl (T.c_MOST_SHARE).choose_spec) ja_nil))))) (j_one (j_frz (j_call (ok_is_integer T) (hr.mono (by decide)) rfl T.g_is_integer T.F_is_integer.kp T.b_is_integer (pxT tk) (ja_cons (j_ix (j_var 0) j_int) (ja_cons j_int (ja_cons (j_globI rfl (T.c_MOST_SHARE).choose_spec) ja_nil))))))))))
theorem sc_Book___eq__ : FnScope N_Book___eq__ ["self", "other"] (defScope s_Book___eq__) := ⟨rfl, rfl, rfl, by decide +kernel, rfl, by decide +kernel, by decide +kernel⟩
theorem ok_Book___eq__ (T : Tx K mg a) : FnOk P w K mg base (L2.CX P w) 2 a.f_Book___eq__ a.d_Book___eq__ ["self", "other"] (liftSp K 2 (C_Book___eq__ a)) := by
  refine fn_ok T.F_Book___eq__ sc_Book___eq__ (by decide) (fun cdv A outer s H E hr => ?_) (pl_Book___eq__ T)
  have tk : Takes (cxOf (L2.CX P w) P w K mg base N_Book___eq__ "Book.__eq__" (defScope s_Book___eq__) a.f_Book___eq__ cdv A outer s H E) (fun cls d _ H => E cls d H) := takes_of rfl rfl rfl rfl
  exact (jss_one (js_ret (j_and (j_cb call_isi c_isiC rfl T.z_isinstance (by decide +kernel) (ja_cons (j_var 1) (ja_cons (j_globR rfl T.g_Book) ja_nil))) (j_one (j_cmp (op_eqD hr.units) p_eq (j_frz (j_meth0 T.cl_Book T.me_Book_parts (ok_Book_parts T) (hr.mono (by decide)) T.b_Book_parts (pxT tk) (j_var 0))) (j_frz (j_meth0 T.cl_Book T.me_Book_parts (ok_Book_parts T) (hr.mono (by decide)) T.b_Book_parts (pxT tk) (j_var 1))) (nomark _))))))
theorem sc_step_of : FnScope N_step_of ["parts", "hold"] (defScope s_step_of) := ⟨rfl, rfl, rfl, by decide +kernel, rfl, by decide +kernel, by decide +kernel⟩
theorem ok_step_of (T : Tx K mg a) : FnOk P w K mg base (L2.CX P w) 2 a.f_step_of a.d_step_of ["parts", "hold"] (liftSp K 2 C_step_of) := by
  refine fn_ok T.F_step_of sc_step_of (by decide) (fun cdv A outer s H E hr => ?_) pl_step_of
  have tk : Takes (cxOf (L2.CX P w) P w K mg base N_step_of "step_of" (defScope s_step_of) a.f_step_of cdv A outer s H E) (fun cls d _ H => E cls d H) := takes_of rfl rfl rfl rfl
  exact (jss_cons (js_asg (j_var 0) (jg_tup rfl (jgs_cons (jg_name (i := 2) sc_step_of.nd rfl (by first | exact Or.inl rfl | exact Or.inr rfl)) (jgs_cons (jg_name (i := 3) sc_step_of.nd rfl (by first | exact Or.inl rfl | exact Or.inr rfl)) (jgs_cons (jg_name (i := 4) sc_step_of.nd rfl (by first | exact Or.inl rfl | exact Or.inr rfl)) jgs_nil)))))
    (jss_cons (js_set (i := 5) sc_step_of.nd rfl (by first | exact Or.inl rfl | exact Or.inr rfl) (j_frz (j_call (ok_part_of T) (hr.mono (by decide)) rfl T.g_part_of T.F_part_of.kp T.b_part_of (pxT tk) (ja_cons (j_var 4) (ja_cons (j_var 1) ja_nil)))))
    (jss_cons (js_if (jt_cmp op_lt p_lt (j_var 5) (j_var 2) (nomark _)) (jss_one (js_ret (j_var 2))) jss_nil)
    (jss_one (js_ret (j_if (jt_cmp op_lt p_lt (j_var 5) (j_var 3) (nomark _)) (j_var 5) (j_var 3)))))))
theorem sc_law_book : FnScope N_law_book ["_law_pool"] (defScope s_law_book) := ⟨rfl, rfl, rfl, by decide +kernel, rfl, by decide +kernel, by decide +kernel⟩
theorem ok_law_book (T : Tx K mg a) : FnOk P w K mg base (L2.CX P w) 2 a.f_law_book a.d_law_book ["_law_pool"] (liftSp K 1 C_law_draws) := by
  refine fn_ok T.F_law_book sc_law_book (by decide) (fun cdv A outer s H E hr => ?_) pl_law_book
  have tk : Takes (cxOf (L2.CX P w) P w K mg base N_law_book "_law_book" (defScope s_law_book) a.f_law_book cdv A outer s H E) (fun cls d _ H => E cls d H) := takes_of rfl rfl rfl rfl
  exact (jss_cons (js_set (i := 1) sc_law_book.nd rfl (by first | exact Or.inl rfl | exact Or.inr rfl) (j_ix (j_lst true (ja_cons j_int (ja_cons j_int (ja_cons j_int (ja_cons j_int (ja_cons (j_op o_add (p_add true) j_int (j_frz (j_call (ok_law_draw T) (hr.mono (by decide)) rfl T.g_law_draw T.F_law_draw.kp T.b_law_draw (pxT tk) (ja_cons (j_var 0) (ja_cons j_int ja_nil))))) (ja_cons (j_pure (t := .int (10 ^ 30)) (j_op op_pow p_pow j_int j_int) (pu_pow pu_c pu_c (by decide))) ja_nil))))))) (j_frz (j_call (ok_law_draw T) (hr.mono (by decide)) rfl T.g_law_draw T.F_law_draw.kp T.b_law_draw (pxT tk) (ja_cons (j_var 0) (ja_cons j_int ja_nil))))))
    (jss_cons (js_set (i := 2) sc_law_book.nd rfl (by first | exact Or.inl rfl | exact Or.inr rfl) (j_op o_add (p_add true) (j_var 1) (j_ix (j_lst true (ja_cons j_int (ja_cons j_int (ja_cons j_int (ja_cons (j_frz (j_call (ok_law_draw T) (hr.mono (by decide)) rfl T.g_law_draw T.F_law_draw.kp T.b_law_draw (pxT tk) (ja_cons (j_var 0) (ja_cons j_int ja_nil)))) (ja_cons (j_op o_add (p_add true) j_int (j_frz (j_call (ok_law_draw T) (hr.mono (by decide)) rfl T.g_law_draw T.F_law_draw.kp T.b_law_draw (pxT tk) (ja_cons (j_var 0) (ja_cons j_int ja_nil))))) (ja_cons (j_pure (t := .int (10 ^ 30)) (j_op op_pow p_pow j_int j_int) (pu_pow pu_c pu_c (by decide))) ja_nil))))))) (j_frz (j_call (ok_law_draw T) (hr.mono (by decide)) rfl T.g_law_draw T.F_law_draw.kp T.b_law_draw (pxT tk) (ja_cons (j_var 0) (ja_cons j_int ja_nil)))))))
    (jss_cons (js_set (i := 2) sc_law_book.nd rfl (by first | exact Or.inl rfl | exact Or.inr rfl) (j_cb (call_minA rfl) c_min rfl T.z_min (by decide +kernel) (ja_cons (j_cty call_int1 c_int rfl T.z_int (by decide +kernel) (ja_cons (j_var 2) ja_nil)) (ja_cons (j_pure (t := .int (10 ^ 30)) (j_op op_pow p_pow j_int j_int) (pu_pow pu_c pu_c (by decide))) ja_nil))))
    (jss_cons (js_par rfl sc_law_book.nd rfl rfl (by decide) rfl rfl (ja_cons (j_op o_add (p_add true) j_int (j_frz (j_call (ok_law_draw T) (hr.mono (by decide)) rfl T.g_law_draw T.F_law_draw.kp T.b_law_draw (pxT tk) (ja_cons (j_var 0) (ja_cons j_int ja_nil))))) (ja_cons (j_op o_add (p_add true) j_int (j_frz (j_call (ok_law_draw T) (hr.mono (by decide)) rfl T.g_law_draw T.F_law_draw.kp T.b_law_draw (pxT tk) (ja_cons (j_var 0) (ja_cons j_int ja_nil))))) ja_nil)) (by rfl))
    (jss_one (js_ret (j_tup (ja_cons (j_var 1) (ja_cons (j_var 2) (ja_cons (j_ix (j_lst true (ja_cons (j_pure (t := .tup [.int 1, .int 1]) (j_tup (ja_cons j_int (ja_cons j_int ja_nil))) (pu_tup (pa_c pu_c (pa_c pu_c pa_n)) (by decide))) (ja_cons (j_pure (t := .tup [.int 1, .int 1]) (j_tup (ja_cons j_int (ja_cons j_int ja_nil))) (pu_tup (pa_c pu_c (pa_c pu_c pa_n)) (by decide))) (ja_cons (j_pure (t := .tup [.int 1, .int 2]) (j_tup (ja_cons j_int (ja_cons j_int ja_nil))) (pu_tup (pa_c pu_c (pa_c pu_c pa_n)) (by decide))) (ja_cons (j_pure (t := .tup [.int 2, .int 1]) (j_tup (ja_cons j_int (ja_cons j_int ja_nil))) (pu_tup (pa_c pu_c (pa_c pu_c pa_n)) (by decide))) (ja_cons (j_tup (ja_cons (j_var 3) (ja_cons (j_var 4) ja_nil))) ja_nil)))))) (j_frz (j_call (ok_law_draw T) (hr.mono (by decide)) rfl T.g_law_draw T.F_law_draw.kp T.b_law_draw (pxT tk) (ja_cons (j_var 0) (ja_cons j_int ja_nil))))) ja_nil))))))))))
theorem sc_law_small : FnScope N_law_small ["_law_pool"] (defScope s_law_small) := ⟨rfl, rfl, rfl, by decide +kernel, rfl, by decide +kernel, by decide +kernel⟩
theorem ok_law_small (T : Tx K mg a) : FnOk P w K mg base (L2.CX P w) 2 a.f_law_small a.d_law_small ["_law_pool"] (liftSp K 1 C_law_small) := by
  refine fn_ok T.F_law_small sc_law_small (by decide) (fun cdv A outer s H E hr => ?_) pl_law_small
  have tk : Takes (cxOf (L2.CX P w) P w K mg base N_law_small "_law_small" (defScope s_law_small) a.f_law_small cdv A outer s H E) (fun cls d _ H => E cls d H) := takes_of rfl rfl rfl rfl
  exact (jss_cons (js_set (i := 1) sc_law_small.nd rfl (by first | exact Or.inl rfl | exact Or.inr rfl) (j_op o_add (p_add true) j_int (j_frz (j_call (ok_law_draw T) (hr.mono (by decide)) rfl T.g_law_draw T.F_law_draw.kp T.b_law_draw (pxT tk) (ja_cons (j_var 0) (ja_cons j_int ja_nil))))))
    (jss_cons (js_set (i := 2) sc_law_small.nd rfl (by first | exact Or.inl rfl | exact Or.inr rfl) (j_op o_add (p_add true) (j_var 1) (j_frz (j_call (ok_law_draw T) (hr.mono (by decide)) rfl T.g_law_draw T.F_law_draw.kp T.b_law_draw (pxT tk) (ja_cons (j_var 0) (ja_cons j_int ja_nil))))))
    (jss_one (js_ret (j_tup (ja_cons (j_var 1) (ja_cons (j_var 2) (ja_cons (j_tup (ja_cons (j_op o_add (p_add true) j_int (j_frz (j_call (ok_law_draw T) (hr.mono (by decide)) rfl T.g_law_draw T.F_law_draw.kp T.b_law_draw (pxT tk) (ja_cons (j_var 0) (ja_cons j_int ja_nil))))) (ja_cons (j_op o_add (p_add true) j_int (j_frz (j_call (ok_law_draw T) (hr.mono (by decide)) rfl T.g_law_draw T.F_law_draw.kp T.b_law_draw (pxT tk) (ja_cons (j_var 0) (ja_cons j_int ja_nil))))) ja_nil))) ja_nil))))))))
theorem sc_law_due : FnScope N_law_due ["_law_ours", "_law_theirs"] (defScope s_law_due) := ⟨rfl, rfl, rfl, by decide +kernel, rfl, by decide +kernel, by decide +kernel⟩
theorem ok_law_due (T : Tx K mg a) : FnOk P w K mg base (L2.CX P w) 2 a.f_law_due a.d_law_due ["_law_ours", "_law_theirs"] (liftSp K 2 C_law_due) := by
  refine fn_ok T.F_law_due sc_law_due (by decide) (fun cdv A outer s H E hr => ?_) pl_law_due
  have tk : Takes (cxOf (L2.CX P w) P w K mg base N_law_due "_law_due" (defScope s_law_due) a.f_law_due cdv A outer s H E) (fun cls d _ H => E cls d H) := takes_of rfl rfl rfl rfl
  exact (jss_cons (js_for (passes_of rfl) rfl (ji_range1 rfl T.z_range (ja_cons j_int ja_nil)) (jg_name (i := 2) sc_law_due.nd rfl (by first | exact Or.inl rfl | exact Or.inr rfl)) (jss_one (js_if (jt_cmp op_gt p_gt (j_frz (j_call (ok_law_step T) (hr.mono (by decide)) rfl T.g_law_step T.F_law_step.kp T.b_law_step (pxT tk) (ja_cons (j_var 0) (ja_cons (j_var 2) ja_nil)))) (j_frz (j_call (ok_law_step T) (hr.mono (by decide)) rfl T.g_law_step T.F_law_step.kp T.b_law_step (pxT tk) (ja_cons (j_var 1) (ja_cons (j_var 2) ja_nil)))) (nomark _)) (jss_one (js_ret j_bl)) jss_nil)))
    (jss_one (js_ret j_bl)))
theorem sc_check_parts : FnScope N_check_parts ["first", "roof", "share", "ahead"] (defScope s_check_parts) := ⟨rfl, rfl, rfl, by decide +kernel, rfl, by decide +kernel, by decide +kernel⟩
theorem ok_check_parts (T : Tx K mg a) : FnOk P w K mg base (L2.CX P w) 3 a.f_check_parts a.d_check_parts ["first", "roof", "share", "ahead"] (liftSp K 4 C_check_parts) := by
  refine fn_ok T.F_check_parts sc_check_parts (by decide) (fun cdv A outer s H E hr => ?_) (pl_check_parts T)
  have tk : Takes (cxOf (L2.CX P w) P w K mg base N_check_parts "check_parts" (defScope s_check_parts) a.f_check_parts cdv A outer s H E) (fun cls d _ H => E cls d H) := takes_of rfl rfl rfl rfl
  exact (jss_cons (js_if (jt_not (jt_tru (j_frz (j_call (ok_is_integer T) (hr.mono (by decide)) rfl T.g_is_integer T.F_is_integer.kp T.b_is_integer (pxT tk) (ja_cons (j_var 0) (ja_cons j_int (ja_cons (j_globI rfl (T.c_MOST_GROWTH).choose_spec) ja_nil))))))) (jss_one (js_raise T.o_InvalidBook T.i_InvalidBook T.t_InvalidBook (okI_InvalidBook T) T.BI_InvalidBook (hr.mono (by decide)) rfl tk rfl T.g_InvalidBook (ja_cons j_str ja_nil))) jss_nil)
    (jss_cons (js_if (jt_w (jw_or (jt_not (jt_tru (j_frz (j_call (ok_is_integer T) (hr.mono (by decide)) rfl T.g_is_integer T.F_is_integer.kp T.b_is_integer (pxT tk) (ja_cons (j_var 1) (ja_cons j_int (ja_cons (j_globI rfl (T.c_MOST_GROWTH).choose_spec) ja_nil))))))) (jw_or1 (jt_cmp op_lt p_lt (j_var 1) (j_var 0) (nomark _))))) (jss_one (js_raise T.o_InvalidBook T.i_InvalidBook T.t_InvalidBook (okI_InvalidBook T) T.BI_InvalidBook (hr.mono (by decide)) rfl tk rfl T.g_InvalidBook (ja_cons (j_var 3) ja_nil))) jss_nil)
    (jss_one (js_if (jt_not (jt_tru (j_frz (j_call (ok_is_share T) (hr.mono (by decide)) rfl T.g_is_share T.F_is_share.kp T.b_is_share (pxT tk) (ja_cons (j_var 2) ja_nil))))) (jss_one (js_raise T.o_InvalidBook T.i_InvalidBook T.t_InvalidBook (okI_InvalidBook T) T.BI_InvalidBook (hr.mono (by decide)) rfl tk rfl T.g_InvalidBook (ja_cons j_str ja_nil))) jss_nil))))
theorem sc_is_never_more : FnScope N_is_never_more ["ours", "theirs"] (defScope s_is_never_more) := ⟨rfl, rfl, rfl, by decide +kernel, rfl, by decide +kernel, by decide +kernel⟩
theorem ok_is_never_more (T : Tx K mg a) : FnOk P w K mg base (L2.CX P w) 3 a.f_is_never_more a.d_is_never_more ["ours", "theirs"] (liftSp K 2 C_is_never_more) := by
  refine fn_ok T.F_is_never_more sc_is_never_more (by decide) (fun cdv A outer s H E hr => ?_) pl_is_never_more
  have tk : Takes (cxOf (L2.CX P w) P w K mg base N_is_never_more "is_never_more" (defScope s_is_never_more) a.f_is_never_more cdv A outer s H E) (fun cls d _ H => E cls d H) := takes_of rfl rfl rfl rfl
  exact (jss_cons (js_asg (j_ix (j_var 0) j_int) (jg_tup rfl (jgs_cons (jg_name (i := 2) sc_is_never_more.nd rfl (by first | exact Or.inl rfl | exact Or.inr rfl)) (jgs_cons (jg_name (i := 3) sc_is_never_more.nd rfl (by first | exact Or.inl rfl | exact Or.inr rfl)) jgs_nil))))
    (jss_cons (js_asg (j_ix (j_var 1) j_int) (jg_tup rfl (jgs_cons (jg_name (i := 4) sc_is_never_more.nd rfl (by first | exact Or.inl rfl | exact Or.inr rfl)) (jgs_cons (jg_name (i := 5) sc_is_never_more.nd rfl (by first | exact Or.inl rfl | exact Or.inr rfl)) jgs_nil))))
    (jss_cons (js_if (jt_w (jw_or (jt_cmp op_le p_le (j_op o_mul (p_mul true) (j_var 2) (j_var 5)) (j_op o_mul (p_mul true) (j_var 4) (j_var 3)) (nomark _)) (jw_or1 (jt_cmp (op_eqD hr.units) p_eq (j_ix (j_var 0) j_int) (j_ix (j_var 0) j_int) (nomark _))))) (jss_one (js_ret j_bl)) jss_nil)
    (jss_cons (js_set (i := 6) sc_is_never_more.nd rfl (by first | exact Or.inl rfl | exact Or.inr rfl) (j_frz (j_call (ok_least_hold T) (hr.mono (by decide)) rfl T.g_least_hold T.F_least_hold.kp T.b_least_hold (pxT tk) (ja_cons (j_ix (j_var 0) j_int) (ja_cons (j_ix (j_var 0) j_int) ja_nil)))))
    (jss_cons (js_set (i := 7) sc_is_never_more.nd rfl (by first | exact Or.inl rfl | exact Or.inr rfl) (j_op op_sub p_sub (j_var 6) (j_op o_mul (p_mul true) (j_var 3) (j_var 5))))
    (jss_cons (js_if (jt_cmp op_lt p_lt (j_var 7) j_int (nomark _)) (jss_one (js_set (i := 7) sc_is_never_more.nd rfl (by first | exact Or.inl rfl | exact Or.inr rfl) j_int)) jss_nil)
    (jss_cons (js_for (passes_of rfl) rfl (ji_rangeW rfl T.z_range (ja_cons (j_var 7) (ja_cons (j_op o_add (p_add true) (j_var 6) j_int) ja_nil))) (jg_name (i := 8) sc_is_never_more.nd rfl (by first | exact Or.inl rfl | exact Or.inr rfl)) (jss_one (js_if (jt_cmp op_gt p_gt (j_frz (j_call (ok_step_of T) (hr.mono (by decide)) rfl T.g_step_of T.F_step_of.kp T.b_step_of (pxT tk) (ja_cons (j_var 0) (ja_cons (j_var 8) ja_nil)))) (j_frz (j_call (ok_step_of T) (hr.mono (by decide)) rfl T.g_step_of T.F_step_of.kp T.b_step_of (pxT tk) (ja_cons (j_var 1) (ja_cons (j_var 8) ja_nil)))) (nomark _)) (jss_one (js_ret j_bl)) jss_nil)))
    (jss_one (js_ret j_bl)))))))))
theorem sc_Book___init__ : FnScope N_Book___init__ ["self", "first", "roof", "share"] (defScope s_Book___init__) := ⟨rfl, rfl, rfl, by decide +kernel, rfl, by decide +kernel, by decide +kernel⟩
theorem ok_Book___init__ (T : Tx K mg a) : FnOk P w K mg base (L2.CX P w) 4 a.f_Book___init__ a.d_Book___init__ ["self", "first", "roof", "share"] (liftSp K 4 (C_Book___init__ a)) := by
  refine fn_ok T.F_Book___init__ sc_Book___init__ (by decide) (fun cdv A outer s H E hr => ?_) (pl_Book___init__ T)
  have tk : Takes (cxOf (L2.CX P w) P w K mg base N_Book___init__ "Book.__init__" (defScope s_Book___init__) a.f_Book___init__ cdv A outer s H E) (fun cls d _ H => E cls d H) := takes_of rfl rfl rfl rfl
  exact (jss_cons (js_expr (j_frz (j_call (ok_check_parts T) (hr.mono (by decide)) rfl T.g_check_parts T.F_check_parts.kp T.b_check_parts (pxT tk) (ja_cons (j_var 1) (ja_cons (j_var 2) (ja_cons (j_var 3) (ja_cons j_str ja_nil)))))))
    (jss_cons (js_fld T.cl_Book T.na_Book_own_first (j_var 0) (j_var 1))
    (jss_cons (js_fld T.cl_Book T.na_Book_own_roof (j_var 0) (j_var 2))
    (jss_one (js_fld T.cl_Book T.na_Book_own_share (j_var 0) (j_var 3))))))
theorem sc_Book___le__ : FnScope N_Book___le__ ["self", "other"] (defScope s_Book___le__) := ⟨rfl, rfl, rfl, by decide +kernel, rfl, by decide +kernel, by decide +kernel⟩
theorem ok_Book___le__ (T : Tx K mg a) : FnOk P w K mg base (L2.CX P w) 4 a.f_Book___le__ a.d_Book___le__ ["self", "other"] (liftSp K 2 (C_Book___le__ a)) := by
  refine fn_ok T.F_Book___le__ sc_Book___le__ (by decide) (fun cdv A outer s H E hr => ?_) (pl_Book___le__ T)
  have tk : Takes (cxOf (L2.CX P w) P w K mg base N_Book___le__ "Book.__le__" (defScope s_Book___le__) a.f_Book___le__ cdv A outer s H E) (fun cls d _ H => E cls d H) := takes_of rfl rfl rfl rfl
  exact (jss_cons (js_if (jt_not (jt_tru (j_cb call_isi c_isiC rfl T.z_isinstance (by decide +kernel) (ja_cons (j_var 1) (ja_cons (j_globR rfl T.g_Book) ja_nil))))) (jss_one js_never) jss_nil)
    (jss_cons (js_if (jt_w (jw_or (jt_cmp op_gt p_gt (j_fld T.cl_Book T.na_Book_own_first (j_var 0)) (j_fld T.cl_Book T.na_Book_own_first (j_var 1)) (nomark _)) (jw_or1 (jt_cmp op_gt p_gt (j_fld T.cl_Book T.na_Book_own_roof (j_var 0)) (j_fld T.cl_Book T.na_Book_own_roof (j_var 1)) (nomark _))))) (jss_one (js_ret j_bl)) jss_nil)
    (jss_one (js_ret (j_call (ok_is_never_more T) (hr.mono (by decide)) rfl T.g_is_never_more T.F_is_never_more.kp T.b_is_never_more (pxT tk) (ja_cons (j_frz (j_meth0 T.cl_Book T.me_Book_parts (ok_Book_parts T) (hr.mono (by decide)) T.b_Book_parts (pxT tk) (j_var 0))) (ja_cons (j_frz (j_meth0 T.cl_Book T.me_Book_parts (ok_Book_parts T) (hr.mono (by decide)) T.b_Book_parts (pxT tk) (j_var 1))) ja_nil)))))))
theorem sc_law_made : FnScope N_law_made ["_law_parts_here"] (defScope s_law_made) := ⟨rfl, rfl, rfl, by decide +kernel, rfl, by decide +kernel, by decide +kernel⟩
theorem ok_law_made (T : Tx K mg a) : FnOk P w K mg base (L2.CX P w) 6 a.f_law_made a.d_law_made ["_law_parts_here"] (liftSp K 1 (C_law_made a)) := by
  refine fn_ok T.F_law_made sc_law_made (by decide) (fun cdv A outer s H E hr => ?_) (pl_law_made T)
  have tk : Takes (cxOf (L2.CX P w) P w K mg base N_law_made "_law_made" (defScope s_law_made) a.f_law_made cdv A outer s H E) (fun cls d _ H => E cls d H) := takes_of rfl rfl rfl rfl
  exact (jss_one (js_ret (j_makeX (n := 2) T.mk_Book (ok_Book___init__ T) (hr.mono (by decide)) rfl T.g_Book T.kb0_Book___init__ (pxT tk) (ja_cons (j_ix (j_var 0) j_int) (ja_cons (j_ix (j_var 0) j_int) ja_nil)) (jk_cons (j_ix (j_var 0) j_int) jk_nil))))
theorem sc_law_wide_right : FnScope N_law_wide_right ["_law_ours", "_law_theirs"] (defScope s_law_wide_right) := ⟨rfl, rfl, rfl, by decide +kernel, rfl, by decide +kernel, by decide +kernel⟩
theorem ok_law_wide_right (T : Tx K mg a) : FnOk P w K mg base (L2.CX P w) 7 a.f_law_wide_right a.d_law_wide_right ["_law_ours", "_law_theirs"] (liftSp K 2 C_law_wide_right) := by
  refine fn_ok T.F_law_wide_right sc_law_wide_right (by decide) (fun cdv A outer s H E hr => ?_) (pl_law_wide_right T)
  have tk : Takes (cxOf (L2.CX P w) P w K mg base N_law_wide_right "_law_wide_right" (defScope s_law_wide_right) a.f_law_wide_right cdv A outer s H E) (fun cls d _ H => E cls d H) := takes_of rfl rfl rfl rfl
  exact (jss_cons (js_set (i := 2) sc_law_wide_right.nd rfl (by first | exact Or.inl rfl | exact Or.inr rfl) (j_op o_add (p_add true) (j_op op_fdivW p_div (j_op o_mul (p_mul true) (j_op op_sub p_sub (j_ix (j_var 0) j_int) j_int) (j_ix (j_ix (j_var 0) j_int) j_int)) (j_ix (j_ix (j_var 0) j_int) j_int)) j_int))
    (jss_cons (js_set (i := 3) sc_law_wide_right.nd rfl (by first | exact Or.inl rfl | exact Or.inr rfl) (j_op o_add (p_add true) (j_pure (t := .lst [.int 0]) (j_lst true (ja_cons j_int ja_nil)) (pu_lst (pa_c pu_c pa_n) (by decide))) (j_lc true (own := [("_law_j", 4)]) rfl sc_law_wide_right.nd (ct_name (by decide)) (ji_range1 rfl T.z_range (ja_cons j_int ja_nil)) (blkOk_by (N := N_law_wide_right) (sc := (defScope s_law_wide_right)) (by decide +kernel)) (fun _ _ _ _ _ => (pg_name (i := 4) sc_law_wide_right.nd rfl (by first | exact Or.inl rfl | exact Or.inr rfl))) (fun _ _ _ _ _ => (jts_one (jt_w (jw_and (jt_cmp op_ge p_ge (j_op op_sub p_sub (j_var 2) (j_var 4)) j_int (nomark _)) (jw_and1 (jt_w (jw_or (jt_cmp op_lt p_lt (j_var 4) j_int (nomark _)) (jw_or1 (jt_cmp (op_eqD hr.units) p_eq (j_op op_mod p_mod (j_var 4) j_int) j_int (nomark _)))))))))) (fun _ _ _ _ _ => (j_op op_sub p_sub (j_var 2) (j_var 4))))))
    (jss_cons (js_set (i := 5) sc_law_wide_right.nd rfl (by first | exact Or.inl rfl | exact Or.inr rfl) (j_cmp (op_eqD hr.units) p_eq (j_lc true (own := [("_law_hold", 6)]) rfl sc_law_wide_right.nd (ct_name (by decide)) (ji_seq (j_var 3)) (blkOk_by (N := N_law_wide_right) (sc := (defScope s_law_wide_right)) (by decide +kernel)) (fun _ _ _ _ _ => (pg_name (i := 6) sc_law_wide_right.nd rfl (by first | exact Or.inl rfl | exact Or.inr rfl))) (fun _ _ _ _ _ => (jts_one (jt_cmp op_gt p_gt (j_frz (j_call (ok_law_step T) (hr.mono (by decide)) rfl T.g_law_step T.F_law_step.kp T.b_law_step px0 (ja_cons (j_var 0) (ja_cons (j_var 6) ja_nil)))) (j_frz (j_call (ok_law_step T) (hr.mono (by decide)) rfl T.g_law_step T.F_law_step.kp T.b_law_step px0 (ja_cons (j_var 1) (ja_cons (j_var 6) ja_nil)))) (nomark _)))) (fun _ _ _ _ _ => j_int)) (j_pure (t := .lst []) (j_lst true ja_nil) (pu_lst pa_n (by decide))) (nomark _)))
    (jss_cons (js_if (jt_w (jw_and (jt_cmp (o_ownCmp (fun _ _ _ _ _ _ z => PySem.W.cmp_ofLtE z) rfl rfl T.me_Book___le__ rfl (ok_Book___le__ T) (hr.mono (by decide)) T.b_Book___le__) p_own (j_frz (j_call (ok_law_made T) (hr.mono (by decide)) rfl T.g_law_made T.F_law_made.kp T.b_law_made (pxT tk) (ja_cons (j_var 0) ja_nil))) (j_frz (j_call (ok_law_made T) (hr.mono (by decide)) rfl T.g_law_made T.F_law_made.kp T.b_law_made (pxT tk) (ja_cons (j_var 1) ja_nil))) (nomark _)) (jw_and1 (jt_not (jt_tru (j_var 5)))))) (jss_one (js_ret j_bl)) jss_nil)
    (jss_cons (js_set (i := 7) sc_law_wide_right.nd rfl (by first | exact Or.inl rfl | exact Or.inr rfl) (j_cmp op_gt p_gt (j_op o_mul (p_mul true) (j_ix (j_ix (j_var 0) j_int) j_int) (j_ix (j_ix (j_var 1) j_int) j_int)) (j_op o_mul (p_mul true) (j_ix (j_ix (j_var 1) j_int) j_int) (j_ix (j_ix (j_var 0) j_int) j_int)) (nomark _)))
    (jss_cons (js_if (jt_w (jw_and (jt_tru (j_var 7)) (jw_and (jt_cmp (op_eqD hr.units) p_eq (j_ix (j_var 0) j_int) (j_ix (j_var 1) j_int) (nomark _)) (jw_and1 (jt_cmp op_lt p_lt (j_op o_mul (p_mul true) (j_cb (call_maxA rfl) c_max rfl T.z_max (by decide +kernel) (ja_cons (j_cty call_int1 c_int rfl T.z_int (by decide +kernel) (ja_cons (j_ix (j_var 0) j_int) ja_nil)) (ja_cons (j_cty call_int1 c_int rfl T.z_int (by decide +kernel) (ja_cons (j_ix (j_var 1) j_int) ja_nil)) ja_nil))) j_int) (j_ix (j_var 0) j_int) (nomark _)))))) (jss_one (js_ret (j_or (j_cmp op_lt p_lt (j_ix (j_var 0) j_int) (j_pure (t := .int (10 ^ 9)) (j_op op_pow p_pow j_int j_int) (pu_pow pu_c pu_c (by decide))) (nomark _)) (j_one (j_not (j_cmp (o_ownCmp (fun _ _ _ _ _ _ z => PySem.W.cmp_ofLtE z) rfl rfl T.me_Book___le__ rfl (ok_Book___le__ T) (hr.mono (by decide)) T.b_Book___le__) p_own (j_frz (j_call (ok_law_made T) (hr.mono (by decide)) rfl T.g_law_made T.F_law_made.kp T.b_law_made (pxT tk) (ja_cons (j_var 0) ja_nil))) (j_frz (j_call (ok_law_made T) (hr.mono (by decide)) rfl T.g_law_made T.F_law_made.kp T.b_law_made (pxT tk) (ja_cons (j_var 1) ja_nil))) (nomark _))))))) jss_nil)
    (jss_one (js_ret j_bl))))))))
theorem sc_law : FnScope N_law ["_law_script"] (defScope s_law) := ⟨rfl, rfl, rfl, by decide +kernel, rfl, by decide +kernel, by decide +kernel⟩
theorem ok_law (T : Tx K mg a) : FnOk P w K mg base (L2.CX P w) 8 a.f_law a.d_law ["_law_script"] (liftSp K 1 C_law) := by
  refine fn_ok T.F_law sc_law (by decide) (fun cdv A outer s H E hr => ?_) (pl_law T)
  have tk : Takes (cxOf (L2.CX P w) P w K mg base N_law "law" (defScope s_law) a.f_law cdv A outer s H E) (fun cls d _ H => E cls d H) := takes_of rfl rfl rfl rfl
  exact (jss_cons (js_for (passes_of rfl) rfl (ji_range1 rfl T.z_range (ja_cons (j_cb (call_maxA rfl) c_max rfl T.z_max (by decide +kernel) (ja_cons j_int (ja_cons (j_cb (call_minA rfl) c_min rfl T.z_min (by decide +kernel) (ja_cons (j_cb call_len c_len rfl T.z_len (by decide +kernel) (ja_cons (j_var 0) ja_nil)) (ja_cons j_int ja_nil))) ja_nil))) ja_nil)) (jg_name (i := 1) sc_law.nd rfl (by first | exact Or.inl rfl | exact Or.inr rfl)) (jss_cons (js_set (i := 2) sc_law.nd rfl (by first | exact Or.inl rfl | exact Or.inr rfl) (j_frz (j_call (ok_law_hand T) (hr.mono (by decide)) rfl T.g_law_hand T.F_law_hand.kp T.b_law_hand (pxT tk) (ja_cons (j_var 0) (ja_cons (j_var 1) ja_nil)))))
    (jss_one (js_for (passes_of rfl) rfl (ji_range1 rfl T.z_range (ja_cons j_int ja_nil)) (jg_name (i := 3) sc_law.nd rfl (by first | exact Or.inl rfl | exact Or.inr rfl)) (jss_cons (js_par rfl sc_law.nd rfl rfl (by decide) rfl rfl (ja_cons (j_frz (j_call (ok_law_small T) (hr.mono (by decide)) rfl T.g_law_small T.F_law_small.kp T.b_law_small (pxT tk) (ja_cons (j_var 2) ja_nil))) (ja_cons (j_frz (j_call (ok_law_small T) (hr.mono (by decide)) rfl T.g_law_small T.F_law_small.kp T.b_law_small (pxT tk) (ja_cons (j_var 2) ja_nil))) ja_nil)) (by rfl))
    (jss_cons (js_set (i := 6) sc_law.nd rfl (by first | exact Or.inl rfl | exact Or.inr rfl) (j_cmp (o_ownCmp (fun _ _ _ _ _ _ z => PySem.W.cmp_ofLtE z) rfl rfl T.me_Book___le__ rfl (ok_Book___le__ T) (hr.mono (by decide)) T.b_Book___le__) p_own (j_frz (j_call (ok_law_made T) (hr.mono (by decide)) rfl T.g_law_made T.F_law_made.kp T.b_law_made (pxT tk) (ja_cons (j_var 4) ja_nil))) (j_frz (j_call (ok_law_made T) (hr.mono (by decide)) rfl T.g_law_made T.F_law_made.kp T.b_law_made (pxT tk) (ja_cons (j_var 5) ja_nil))) (nomark _)))
    (jss_cons (js_if (jt_w (jw_or (jt_not (jt_tru (j_cb call_isi c_isi rfl T.z_isinstance (by decide +kernel) (ja_cons (j_var 6) (ja_cons (j_ty rfl T.z_bool (by decide +kernel)) ja_nil))))) (jw_or1 (jt_cmp (op_neD hr.units) p_ne (j_var 6) (j_frz (j_call (ok_law_due T) (hr.mono (by decide)) rfl T.g_law_due T.F_law_due.kp T.b_law_due (pxT tk) (ja_cons (j_var 4) (ja_cons (j_var 5) ja_nil)))) (nomark _))))) (jss_one (js_ret j_bl)) jss_nil)
    (jss_cons (js_par rfl sc_law.nd rfl rfl (by decide) rfl rfl (ja_cons (j_frz (j_call (ok_law_book T) (hr.mono (by decide)) rfl T.g_law_book T.F_law_book.kp T.b_law_book (pxT tk) (ja_cons (j_var 2) ja_nil))) (ja_cons (j_frz (j_call (ok_law_book T) (hr.mono (by decide)) rfl T.g_law_book T.F_law_book.kp T.b_law_book (pxT tk) (ja_cons (j_var 2) ja_nil))) ja_nil)) (by rfl))
    (jss_cons (js_set (i := 8) sc_law.nd rfl (by first | exact Or.inl rfl | exact Or.inr rfl) (j_tup (ja_cons (j_ix (j_var 8) j_int) (ja_cons (j_ix (j_var 8) j_int) (ja_cons (j_ix (j_var 7) j_int) ja_nil)))))
    (jss_cons (js_set (i := 9) sc_law.nd rfl (by first | exact Or.inl rfl | exact Or.inr rfl) (j_and (j_cmp op_le p_le (j_ix (j_var 7) j_int) (j_ix (j_var 8) j_int) (nomark _)) (j_one (j_cmp op_le p_le (j_ix (j_var 7) j_int) (j_ix (j_var 8) j_int) (nomark _)))))
    (jss_cons (js_if (jt_cmp (op_neD hr.units) p_ne (j_cmp (o_ownCmp (fun _ _ _ _ _ _ z => PySem.W.cmp_ofLtE z) rfl rfl T.me_Book___le__ rfl (ok_Book___le__ T) (hr.mono (by decide)) T.b_Book___le__) p_own (j_frz (j_call (ok_law_made T) (hr.mono (by decide)) rfl T.g_law_made T.F_law_made.kp T.b_law_made (pxT tk) (ja_cons (j_var 7) ja_nil))) (j_frz (j_call (ok_law_made T) (hr.mono (by decide)) rfl T.g_law_made T.F_law_made.kp T.b_law_made (pxT tk) (ja_cons (j_var 8) ja_nil))) (nomark _)) (j_var 9) (nomark _)) (jss_one (js_ret j_bl)) jss_nil)
    (jss_cons (js_set (i := 10) sc_law.nd rfl (by first | exact Or.inl rfl | exact Or.inr rfl) (j_tup (ja_cons (j_ix (j_var 8) j_int) (ja_cons (j_ix (j_var 8) j_int) (ja_cons (j_ix (j_pure (t := .lst [.tup [.int 2, .int 1], .tup [.int 1, .int 2], .tup [.int 99, .int 100], .tup [.int 100, .int 99]]) (j_lst true (ja_cons (j_pure (t := .tup [.int 2, .int 1]) (j_tup (ja_cons j_int (ja_cons j_int ja_nil))) (pu_tup (pa_c pu_c (pa_c pu_c pa_n)) (by decide))) (ja_cons (j_pure (t := .tup [.int 1, .int 2]) (j_tup (ja_cons j_int (ja_cons j_int ja_nil))) (pu_tup (pa_c pu_c (pa_c pu_c pa_n)) (by decide))) (ja_cons (j_pure (t := .tup [.int 99, .int 100]) (j_tup (ja_cons j_int (ja_cons j_int ja_nil))) (pu_tup (pa_c pu_c (pa_c pu_c pa_n)) (by decide))) (ja_cons (j_pure (t := .tup [.int 100, .int 99]) (j_tup (ja_cons j_int (ja_cons j_int ja_nil))) (pu_tup (pa_c pu_c (pa_c pu_c pa_n)) (by decide))) ja_nil))))) (pu_lst (pa_c pu_c (pa_c pu_c (pa_c pu_c (pa_c pu_c pa_n)))) (by decide))) (j_frz (j_call (ok_law_draw T) (hr.mono (by decide)) rfl T.g_law_draw T.F_law_draw.kp T.b_law_draw (pxT tk) (ja_cons (j_var 2) (ja_cons j_int ja_nil))))) ja_nil)))))
    (jss_cons (js_if (jt_w (jw_or (jt_not (jt_tru (j_frz (j_call (ok_law_wide_right T) (hr.mono (by decide)) rfl T.g_law_wide_right T.F_law_wide_right.kp T.b_law_wide_right (pxT tk) (ja_cons (j_var 7) (ja_cons (j_var 10) ja_nil)))))) (jw_or1 (jt_not (jt_tru (j_frz (j_call (ok_law_wide_right T) (hr.mono (by decide)) rfl T.g_law_wide_right T.F_law_wide_right.kp T.b_law_wide_right (pxT tk) (ja_cons (j_var 10) (ja_cons (j_var 7) ja_nil))))))))) (jss_one (js_ret j_bl)) jss_nil)
    (jss_cons (js_if (jt_cmp (op_neD hr.units) p_ne (j_cmp (o_ownCmp (fun _ _ _ _ _ _ z => PySem.W.cmp_ofEq z) rfl rfl T.me_Book___eq__ rfl (ok_Book___eq__ T) (hr.mono (by decide)) T.b_Book___eq__) p_own (j_frz (j_call (ok_law_made T) (hr.mono (by decide)) rfl T.g_law_made T.F_law_made.kp T.b_law_made (pxT tk) (ja_cons (j_var 7) ja_nil))) (j_frz (j_call (ok_law_made T) (hr.mono (by decide)) rfl T.g_law_made T.F_law_made.kp T.b_law_made (pxT tk) (ja_cons (j_var 8) ja_nil))) (nomark _)) (j_cmp (op_eqD hr.units) p_eq (j_var 7) (j_var 8) (nomark _)) (nomark _)) (jss_one (js_ret j_bl)) jss_nil)
    (jss_one (js_if (jt_not (jt_cmp (o_ownCmp (fun _ _ _ _ _ _ z => PySem.W.cmp_ofLtE z) rfl rfl T.me_Book___le__ rfl (ok_Book___le__ T) (hr.mono (by decide)) T.b_Book___le__) p_own (j_frz (j_call (ok_law_made T) (hr.mono (by decide)) rfl T.g_law_made T.F_law_made.kp T.b_law_made (pxT tk) (ja_cons (j_var 7) ja_nil))) (j_frz (j_call (ok_law_made T) (hr.mono (by decide)) rfl T.g_law_made T.F_law_made.kp T.b_law_made (pxT tk) (ja_cons (j_var 7) ja_nil))) (nomark _))) (jss_one (js_ret j_bl)) jss_nil))))))))))))))))
    (jss_one (js_ret j_bl)))
end
theorem all_mk {l : PySem.W.OpenLaw} {w : World} {K : PySem.W.Frag} {h : Heap} {mg : Str → Option Value} {fa : Addr} (X : K.In h) (G : h.Ns mainGlobals mg) (hfa : mg "law" = some (.ref fa))
    {f1 : Addr} {od1 an1 : Option Addr} {sl1 : Array (Option Value)} {oc1 kV1 dc1 pm1 cd1 ct1 : Value}
    {f2 : Addr} {od2 an2 : Option Addr} {sl2 : Array (Option Value)} {oc2 kV2 dc2 pm2 cd2 ct2 : Value}
    {f3 : Addr} {od3 an3 : Option Addr} {sl3 : Array (Option Value)} {oc3 kV3 dc3 pm3 cd3 ct3 : Value}
    {f4 : Addr} {od4 an4 : Option Addr} {sl4 : Array (Option Value)} {oc4 kV4 dc4 pm4 cd4 ct4 : Value}
    {f5 : Addr} {od5 an5 : Option Addr} {sl5 : Array (Option Value)} {oc5 kV5 dc5 pm5 cd5 ct5 : Value}
    {f6 : Addr} {od6 an6 : Option Addr} {sl6 : Array (Option Value)} {oc6 dc6 pm6 cd6 ct6 : Value}
    {kd6 : Addr}
    {kt6_share : Addr}
    {f7 : Addr} {od7 an7 : Option Addr} {sl7 : Array (Option Value)} {oc7 kV7 dc7 pm7 cd7 ct7 : Value}
    {f8 : Addr} {od8 an8 : Option Addr} {sl8 : Array (Option Value)} {oc8 kV8 dc8 pm8 cd8 ct8 : Value}
    {f9 : Addr} {od9 an9 : Option Addr} {sl9 : Array (Option Value)} {oc9 kV9 dc9 pm9 cd9 ct9 : Value}
    {f10 : Addr} {od10 an10 : Option Addr} {sl10 : Array (Option Value)} {oc10 kV10 dc10 pm10 cd10 ct10 : Value}
    {f11 : Addr} {od11 an11 : Option Addr} {sl11 : Array (Option Value)} {oc11 kV11 dc11 pm11 cd11 ct11 : Value}
    {f12 : Addr} {od12 an12 : Option Addr} {sl12 : Array (Option Value)} {oc12 kV12 dc12 pm12 cd12 ct12 : Value}
    {f13 : Addr} {od13 an13 : Option Addr} {sl13 : Array (Option Value)} {oc13 kV13 dc13 pm13 cd13 ct13 : Value}
    {f14 : Addr} {od14 an14 : Option Addr} {sl14 : Array (Option Value)} {oc14 kV14 dc14 pm14 cd14 ct14 : Value}
    {f15 : Addr} {od15 an15 : Option Addr} {sl15 : Array (Option Value)} {oc15 kV15 dc15 pm15 cd15 ct15 : Value}
    {f16 : Addr} {od16 an16 : Option Addr} {sl16 : Array (Option Value)} {oc16 kV16 dc16 pm16 cd16 ct16 : Value}
    {f17 : Addr} {od17 an17 : Option Addr} {sl17 : Array (Option Value)} {oc17 kV17 dc17 pm17 cd17 ct17 : Value}
    {f18 : Addr} {od18 an18 : Option Addr} {sl18 : Array (Option Value)} {oc18 kV18 dc18 pm18 cd18 ct18 : Value}
    {f19 : Addr} {od19 an19 : Option Addr} {sl19 : Array (Option Value)} {oc19 kV19 dc19 pm19 cd19 ct19 : Value}
    {f20 : Addr} {od20 an20 : Option Addr} {sl20 : Array (Option Value)} {oc20 kV20 dc20 pm20 cd20 ct20 : Value}
    {t_MOST_GROWTH : Tok}
    {t_MOST_SHARE : Tok}
    {c_InvalidBook : Addr}
    {c_GrowError : Addr}
    {c_Book : Addr}
    {i_InvalidBook : Addr} {xnm_InvalidBook xq_InvalidBook : Str} {xN_InvalidBook : Addr} {xbs_InvalidBook : List Value} {xsn_InvalidBook : List Str} {xsub_InvalidBook : List Value} {xab_InvalidBook : Bool} {xcol_InvalidBook : Option Bool} {xdd_InvalidBook : Option Addr} {m0_InvalidBook m1_InvalidBook m2_InvalidBook m3_InvalidBook m5_InvalidBook : Option Value} {od_InvalidBook an_InvalidBook : Option Addr} {sl_InvalidBook : Array (Option Value)} {oc_InvalidBook kV_InvalidBook dc_InvalidBook pm_InvalidBook cd_InvalidBook ct_InvalidBook : Value}
    (a1 : PySem.W.nsIn K mainGlobals "is_integer" = some (some (.ref f1)))
    (l1 : K.lookup f1 = some ⟨oc1, od1, .func (PySem.W.fnOf "is_integer" "is_integer" (defArgs s_is_integer) (defBody s_is_integer) (defScope s_is_integer) .none kV1 dc1 pm1 an1 cd1 ct1), sl1⟩) (c1 : PySem.W.codeIn K cd1 "is_integer" = true) (k1 : PySem.W.keepIn K (.ref f1) = true)
    (a2 : PySem.W.nsIn K mainGlobals "is_share" = some (some (.ref f2)))
    (l2 : K.lookup f2 = some ⟨oc2, od2, .func (PySem.W.fnOf "is_share" "is_share" (defArgs s_is_share) (defBody s_is_share) (defScope s_is_share) .none kV2 dc2 pm2 an2 cd2 ct2), sl2⟩) (c2 : PySem.W.codeIn K cd2 "is_share" = true) (k2 : PySem.W.keepIn K (.ref f2) = true)
    (a3 : PySem.W.nsIn K mainGlobals "part_of" = some (some (.ref f3)))
    (l3 : K.lookup f3 = some ⟨oc3, od3, .func (PySem.W.fnOf "part_of" "part_of" (defArgs s_part_of) (defBody s_part_of) (defScope s_part_of) .none kV3 dc3 pm3 an3 cd3 ct3), sl3⟩) (c3 : PySem.W.codeIn K cd3 "part_of" = true) (k3 : PySem.W.keepIn K (.ref f3) = true)
    (a4 : PySem.W.nsIn K mainGlobals "least_hold" = some (some (.ref f4)))
    (l4 : K.lookup f4 = some ⟨oc4, od4, .func (PySem.W.fnOf "least_hold" "least_hold" (defArgs s_least_hold) (defBody s_least_hold) (defScope s_least_hold) .none kV4 dc4 pm4 an4 cd4 ct4), sl4⟩) (c4 : PySem.W.codeIn K cd4 "least_hold" = true) (k4 : PySem.W.keepIn K (.ref f4) = true)
    (a5 : PySem.W.nsIn K mainGlobals "check_parts" = some (some (.ref f5)))
    (l5 : K.lookup f5 = some ⟨oc5, od5, .func (PySem.W.fnOf "check_parts" "check_parts" (defArgs s_check_parts) (defBody s_check_parts) (defScope s_check_parts) .none kV5 dc5 pm5 an5 cd5 ct5), sl5⟩) (c5 : PySem.W.codeIn K cd5 "check_parts" = true) (k5 : PySem.W.keepIn K (.ref f5) = true)
    (a10 : PySem.W.nsIn K mainGlobals "step_of" = some (some (.ref f10)))
    (l10 : K.lookup f10 = some ⟨oc10, od10, .func (PySem.W.fnOf "step_of" "step_of" (defArgs s_step_of) (defBody s_step_of) (defScope s_step_of) .none kV10 dc10 pm10 an10 cd10 ct10), sl10⟩) (c10 : PySem.W.codeIn K cd10 "step_of" = true) (k10 : PySem.W.keepIn K (.ref f10) = true)
    (a11 : PySem.W.nsIn K mainGlobals "is_never_more" = some (some (.ref f11)))
    (l11 : K.lookup f11 = some ⟨oc11, od11, .func (PySem.W.fnOf "is_never_more" "is_never_more" (defArgs s_is_never_more) (defBody s_is_never_more) (defScope s_is_never_more) .none kV11 dc11 pm11 an11 cd11 ct11), sl11⟩) (c11 : PySem.W.codeIn K cd11 "is_never_more" = true) (k11 : PySem.W.keepIn K (.ref f11) = true)
    (a12 : PySem.W.nsIn K mainGlobals "_law_hand" = some (some (.ref f12)))
    (l12 : K.lookup f12 = some ⟨oc12, od12, .func (PySem.W.fnOf "_law_hand" "_law_hand" (defArgs s_law_hand) (defBody s_law_hand) (defScope s_law_hand) .none kV12 dc12 pm12 an12 cd12 ct12), sl12⟩) (c12 : PySem.W.codeIn K cd12 "_law_hand" = true) (k12 : PySem.W.keepIn K (.ref f12) = true)
    (a13 : PySem.W.nsIn K mainGlobals "_law_draw" = some (some (.ref f13)))
    (l13 : K.lookup f13 = some ⟨oc13, od13, .func (PySem.W.fnOf "_law_draw" "_law_draw" (defArgs s_law_draw) (defBody s_law_draw) (defScope s_law_draw) .none kV13 dc13 pm13 an13 cd13 ct13), sl13⟩) (c13 : PySem.W.codeIn K cd13 "_law_draw" = true) (k13 : PySem.W.keepIn K (.ref f13) = true)
    (a14 : PySem.W.nsIn K mainGlobals "_law_book" = some (some (.ref f14)))
    (l14 : K.lookup f14 = some ⟨oc14, od14, .func (PySem.W.fnOf "_law_book" "_law_book" (defArgs s_law_book) (defBody s_law_book) (defScope s_law_book) .none kV14 dc14 pm14 an14 cd14 ct14), sl14⟩) (c14 : PySem.W.codeIn K cd14 "_law_book" = true) (k14 : PySem.W.keepIn K (.ref f14) = true)
    (a15 : PySem.W.nsIn K mainGlobals "_law_made" = some (some (.ref f15)))
    (l15 : K.lookup f15 = some ⟨oc15, od15, .func (PySem.W.fnOf "_law_made" "_law_made" (defArgs s_law_made) (defBody s_law_made) (defScope s_law_made) .none kV15 dc15 pm15 an15 cd15 ct15), sl15⟩) (c15 : PySem.W.codeIn K cd15 "_law_made" = true) (k15 : PySem.W.keepIn K (.ref f15) = true)
    (a16 : PySem.W.nsIn K mainGlobals "_law_step" = some (some (.ref f16)))
    (l16 : K.lookup f16 = some ⟨oc16, od16, .func (PySem.W.fnOf "_law_step" "_law_step" (defArgs s_law_step) (defBody s_law_step) (defScope s_law_step) .none kV16 dc16 pm16 an16 cd16 ct16), sl16⟩) (c16 : PySem.W.codeIn K cd16 "_law_step" = true) (k16 : PySem.W.keepIn K (.ref f16) = true)
    (a17 : PySem.W.nsIn K mainGlobals "_law_small" = some (some (.ref f17)))
    (l17 : K.lookup f17 = some ⟨oc17, od17, .func (PySem.W.fnOf "_law_small" "_law_small" (defArgs s_law_small) (defBody s_law_small) (defScope s_law_small) .none kV17 dc17 pm17 an17 cd17 ct17), sl17⟩) (c17 : PySem.W.codeIn K cd17 "_law_small" = true) (k17 : PySem.W.keepIn K (.ref f17) = true)
    (a18 : PySem.W.nsIn K mainGlobals "_law_due" = some (some (.ref f18)))
    (l18 : K.lookup f18 = some ⟨oc18, od18, .func (PySem.W.fnOf "_law_due" "_law_due" (defArgs s_law_due) (defBody s_law_due) (defScope s_law_due) .none kV18 dc18 pm18 an18 cd18 ct18), sl18⟩) (c18 : PySem.W.codeIn K cd18 "_law_due" = true) (k18 : PySem.W.keepIn K (.ref f18) = true)
    (a19 : PySem.W.nsIn K mainGlobals "_law_wide_right" = some (some (.ref f19)))
    (l19 : K.lookup f19 = some ⟨oc19, od19, .func (PySem.W.fnOf "_law_wide_right" "_law_wide_right" (defArgs s_law_wide_right) (defBody s_law_wide_right) (defScope s_law_wide_right) .none kV19 dc19 pm19 an19 cd19 ct19), sl19⟩) (c19 : PySem.W.codeIn K cd19 "_law_wide_right" = true) (k19 : PySem.W.keepIn K (.ref f19) = true)
    (a20 : PySem.W.nsIn K mainGlobals "law" = some (some (.ref f20)))
    (l20 : K.lookup f20 = some ⟨oc20, od20, .func (PySem.W.fnOf "law" "law" (defArgs s_law) (defBody s_law) (defScope s_law) .none kV20 dc20 pm20 an20 cd20 ct20), sl20⟩) (c20 : PySem.W.codeIn K cd20 "law" = true) (k20 : PySem.W.keepIn K (.ref f20) = true)
    (z_bool : PySem.W.nsIn K mainGlobals "bool" = some none)
    (z_int : PySem.W.nsIn K mainGlobals "int" = some none)
    (z_isinstance : PySem.W.nsIn K mainGlobals "isinstance" = some none)
    (z_len : PySem.W.nsIn K mainGlobals "len" = some none)
    (z_max : PySem.W.nsIn K mainGlobals "max" = some none)
    (z_min : PySem.W.nsIn K mainGlobals "min" = some none)
    (z_range : PySem.W.nsIn K mainGlobals "range" = some none)
    (z_tuple : PySem.W.nsIn K mainGlobals "tuple" = some none)
    (c_MOST_GROWTH : PySem.W.nsIn K mainGlobals "MOST_GROWTH" = some (some (.int 1000000000000000000000000000000 t_MOST_GROWTH)))
    (c_MOST_SHARE : PySem.W.nsIn K mainGlobals "MOST_SHARE" = some (some (.int 100 t_MOST_SHARE)))
    (ga_InvalidBook : PySem.W.nsIn K mainGlobals "InvalidBook" = some (some (.ref c_InvalidBook)))
    (ga_GrowError : PySem.W.nsIn K mainGlobals "GrowError" = some (some (.ref c_GrowError)))
    (ga_Book : PySem.W.nsIn K mainGlobals "Book" = some (some (.ref c_Book)))
    (mi6 : PySem.W.findIn K (.ref c_Book) "__init__" = some (some (.ref f6))) (mf6 : PySem.W.isFn K (.ref f6) = true)
    (l6 : K.lookup f6 = some ⟨oc6, od6, .func (PySem.W.fnOf "__init__" "Book.__init__" (defArgs s_Book___init__) (defBody s_Book___init__) (defScope s_Book___init__) .none (.ref kd6) dc6 pm6 an6 cd6 ct6), sl6⟩) (c6 : PySem.W.codeIn K cd6 "Book.__init__" = true) (k6 : PySem.W.keepIn K (.ref f6) = true)
    (kw6_share : PySem.W.nsIn K kd6 "share" = some (some (.ref kt6_share)))
    (mi7 : PySem.W.findIn K (.ref c_Book) "parts" = some (some (.ref f7))) (mf7 : PySem.W.isFn K (.ref f7) = true)
    (l7 : K.lookup f7 = some ⟨oc7, od7, .func (PySem.W.fnOf "parts" "Book.parts" (defArgs s_Book_parts) (defBody s_Book_parts) (defScope s_Book_parts) .none kV7 dc7 pm7 an7 cd7 ct7), sl7⟩) (c7 : PySem.W.codeIn K cd7 "Book.parts" = true) (k7 : PySem.W.keepIn K (.ref f7) = true)
    (mi8 : PySem.W.findIn K (.ref c_Book) "__eq__" = some (some (.ref f8))) (mf8 : PySem.W.isFn K (.ref f8) = true)
    (l8 : K.lookup f8 = some ⟨oc8, od8, .func (PySem.W.fnOf "__eq__" "Book.__eq__" (defArgs s_Book___eq__) (defBody s_Book___eq__) (defScope s_Book___eq__) .none kV8 dc8 pm8 an8 cd8 ct8), sl8⟩) (c8 : PySem.W.codeIn K cd8 "Book.__eq__" = true) (k8 : PySem.W.keepIn K (.ref f8) = true)
    (mi9 : PySem.W.findIn K (.ref c_Book) "__le__" = some (some (.ref f9))) (mf9 : PySem.W.isFn K (.ref f9) = true)
    (l9 : K.lookup f9 = some ⟨oc9, od9, .func (PySem.W.fnOf "__le__" "Book.__le__" (defArgs s_Book___le__) (defBody s_Book___le__) (defScope s_Book___le__) .none kV9 dc9 pm9 an9 cd9 ct9), sl9⟩) (c9 : PySem.W.codeIn K cd9 "Book.__le__" = true) (k9 : PySem.W.keepIn K (.ref f9) = true)
    (wpg_Book : PySem.W.plainGet K c_Book Str.empty = true)
    (whd_Book : PySem.W.hasDictIn K c_Book = true)
    (wpo_Book : PySem.W.plainOver K c_Book = true)
    (wsa_Book : PySem.W.findIn K (.ref c_Book) "__setattr__" = some (some (.builtin "object.__setattr__")))
    (wmk_Book : PySem.W.makesIn K c_Book = true)
    (wkp_Book : PySem.W.keepIn K (.ref c_Book) = true)
    (wcl_Book : PySem.W.findIn K (.ref c_Book) "__class__" = some (some (.builtin "object.__class__")))
    (wsp_Book : PySem.W.specialIn K (.builtin "object.__class__") "__get__" = some (some (.builtin "getset_descriptor.__get__")))
    (wtk_Book : PySem.W.takesIn K (.builtin "object.__class__") = some true)
    (wmr_Book : PySem.W.mroIn K c_Book (.type "object") = some true)
    (wk_non_Book : PySem.W.kitOne K (.type "NoneType") (.ref c_Book) = some false)
    (wk_bl_Book : PySem.W.kitOne K (.type "bool") (.ref c_Book) = some false)
    (wk_int_Book : PySem.W.kitOne K (.type "int") (.ref c_Book) = some false)
    (wk_str_Book : PySem.W.kitOne K (.type "str") (.ref c_Book) = some false)
    (wk_tup_Book : PySem.W.kitOne K (.type "tuple") (.ref c_Book) = some false)
    (wk_lst_Book : PySem.W.kitOne K (.type "list") (.ref c_Book) = some false)
    (wi_Book_Book : PySem.W.kitOne K (.ref c_Book) (.ref c_Book) = some true)
    (wn_Book_own_share : PySem.W.findIn K (.ref c_Book) "own_share" = some none)
    (wn_Book_own_roof : PySem.W.findIn K (.ref c_Book) "own_roof" = some none)
    (wn_Book_own_first : PySem.W.findIn K (.ref c_Book) "own_first" = some none)
    (xL_InvalidBook : K.lookup c_InvalidBook = some (excClassObj xnm_InvalidBook xq_InvalidBook c_InvalidBook xN_InvalidBook xbs_InvalidBook [.ref c_GrowError, .type "ValueError", .type "Exception", .type "BaseException", .type "object"] true xsn_InvalidBook xsub_InvalidBook xab_InvalidBook xcol_InvalidBook xdd_InvalidBook m0_InvalidBook m1_InvalidBook m2_InvalidBook m3_InvalidBook m5_InvalidBook "ValueError.__new__"))
    (xsa_InvalidBook : PySem.W.findIn K (.ref c_InvalidBook) "__setattr__" = some (some (.builtin "object.__setattr__")))
    (xga_InvalidBook : PySem.W.findIn K (.ref c_InvalidBook) "__getattribute__" = some (some (.builtin "BaseException.__getattribute__")))
    (xgg_InvalidBook : PySem.W.findIn K (.ref c_InvalidBook) "__getattr__" = some none)
    (xnf_InvalidBook : PySem.W.findIn K (.ref c_InvalidBook) "part" = some none)
    (xi_InvalidBook : PySem.W.findIn K (.ref c_InvalidBook) "__init__" = some (some (.ref i_InvalidBook)))
    (xt_InvalidBook : PySem.W.typeIn K (.ref i_InvalidBook) = some (.type "function"))
    (xl_InvalidBook : K.lookup i_InvalidBook = some ⟨oc_InvalidBook, od_InvalidBook, .func (PySem.W.fnOf "__init__" "InvalidBook.__init__" (defArgs si_InvalidBook) (defBody si_InvalidBook) (defScope si_InvalidBook) .none kV_InvalidBook dc_InvalidBook pm_InvalidBook an_InvalidBook cd_InvalidBook ct_InvalidBook), sl_InvalidBook⟩)
    (xc_InvalidBook : PySem.W.codeIn K cd_InvalidBook "InvalidBook.__init__" = true)
    (xki_InvalidBook : PySem.W.keepIn K (.ref i_InvalidBook) = true)
    (xk_InvalidBook : PySem.W.keepIn K (.ref c_InvalidBook) = true)
    (xe_InvalidBook : PySem.W.subIn K (.ref c_InvalidBook) (.type "BaseException") = some true)
    (xty_InvalidBook : PySem.W.typeIn K (.ref c_InvalidBook) = some (.type "type"))
    (xh_InvalidBook : PySem.W.hasDictIn K c_InvalidBook = true)
    (xcl_InvalidBook : PySem.W.findIn K (.ref c_InvalidBook) "__class__" = some (some (.builtin "object.__class__")))
    (xsp_InvalidBook : PySem.W.specialIn K (.builtin "object.__class__") "__get__" = some (some (.builtin "getset_descriptor.__get__")))
    (xtk_InvalidBook : PySem.W.takesIn K (.builtin "object.__class__") = some true)
    (xm_InvalidBook : PySem.W.mroIn K c_InvalidBook (.type "object") = some true) :
    ∃ fd : FuncData, (∀ (s : Shared) (v : Value), BindsTo s fd ⟨[v], []⟩ [("_law_script", v)]) ∧ ∀ base : Heap, K.In base → base.Ns mainGlobals mg → FnOk l.prog w K mg base (L2.CX l.prog w) 8 fa fd ["_law_script"] (liftSp K 1 C_law) := by
  have e := hfa.symm.trans (PySem.W.mg_of X G a20)
  cases e
  have F1 := fun_mk (st := s_is_integer) l1 c1 k1
  have b1 := F1.binds (ps := ["thing", "least", "most"]) fun _ _ _ _ _ _ us hl => match us, hl with | [_, _, _], _ => rfl
  have F2 := fun_mk (st := s_is_share) l2 c2 k2
  have b2 := F2.binds (ps := ["thing"]) fun _ _ _ _ _ _ us hl => match us, hl with | [_], _ => rfl
  have F3 := fun_mk (st := s_part_of) l3 c3 k3
  have b3 := F3.binds (ps := ["share", "hold"]) fun _ _ _ _ _ _ us hl => match us, hl with | [_, _], _ => rfl
  have F4 := fun_mk (st := s_least_hold) l4 c4 k4
  have b4 := F4.binds (ps := ["share", "many"]) fun _ _ _ _ _ _ us hl => match us, hl with | [_, _], _ => rfl
  have F5 := fun_mk (st := s_check_parts) l5 c5 k5
  have b5 := F5.binds (ps := ["first", "roof", "share", "ahead"]) fun _ _ _ _ _ _ us hl => match us, hl with | [_, _, _, _], _ => rfl
  have F6 := fun_mk (st := s_Book___init__) l6 c6 k6
  have D6 := funD_of (st := s_Book___init__) (kws := [("share", .ref kt6_share)]) l6 c6 k6 (List.forall_mem_cons.mpr ⟨⟨_, kw6_share, rfl⟩, fun q hq => absurd hq List.not_mem_nil⟩)
  have kb0_6 := kbt_of (ps := ["self", "first", "roof", "share"]) D6 3 ["share"] [] [] [0] (fun ts zs => match ts, zs with | [x0, x1, x2], [k0] => [x0, x1, x2, k0] | _, _ => []) (fun z => nomatch z) (by simp) (fun _ _ => .nil) (fun ts us h1 h2 => match ts, us, h1, h2 with | [_, _, _], [_], _, _ => rfl) (fun _ _ _ _ _ _ us mv ws h1 h2 h3 => match us, mv, ws, h1, h2, h3 with | [_, _, _], [], [_], _, _, _ => rfl)
  have F7 := fun_mk (st := s_Book_parts) l7 c7 k7
  have b7 := F7.binds (ps := ["self"]) fun _ _ _ _ _ _ us hl => match us, hl with | [_], _ => rfl
  have F8 := fun_mk (st := s_Book___eq__) l8 c8 k8
  have b8 := F8.binds (ps := ["self", "other"]) fun _ _ _ _ _ _ us hl => match us, hl with | [_, _], _ => rfl
  have F9 := fun_mk (st := s_Book___le__) l9 c9 k9
  have b9 := F9.binds (ps := ["self", "other"]) fun _ _ _ _ _ _ us hl => match us, hl with | [_, _], _ => rfl
  have F10 := fun_mk (st := s_step_of) l10 c10 k10
  have b10 := F10.binds (ps := ["parts", "hold"]) fun _ _ _ _ _ _ us hl => match us, hl with | [_, _], _ => rfl
  have F11 := fun_mk (st := s_is_never_more) l11 c11 k11
  have b11 := F11.binds (ps := ["ours", "theirs"]) fun _ _ _ _ _ _ us hl => match us, hl with | [_, _], _ => rfl
  have F12 := fun_mk (st := s_law_hand) l12 c12 k12
  have b12 := F12.binds (ps := ["_law_script", "_law_k"]) fun _ _ _ _ _ _ us hl => match us, hl with | [_, _], _ => rfl
  have F13 := fun_mk (st := s_law_draw) l13 c13 k13
  have b13 := F13.binds (ps := ["_law_pool", "_law_many"]) fun _ _ _ _ _ _ us hl => match us, hl with | [_, _], _ => rfl
  have F14 := fun_mk (st := s_law_book) l14 c14 k14
  have b14 := F14.binds (ps := ["_law_pool"]) fun _ _ _ _ _ _ us hl => match us, hl with | [_], _ => rfl
  have F15 := fun_mk (st := s_law_made) l15 c15 k15
  have b15 := F15.binds (ps := ["_law_parts_here"]) fun _ _ _ _ _ _ us hl => match us, hl with | [_], _ => rfl
  have F16 := fun_mk (st := s_law_step) l16 c16 k16
  have b16 := F16.binds (ps := ["_law_parts_here", "_law_hold"]) fun _ _ _ _ _ _ us hl => match us, hl with | [_, _], _ => rfl
  have F17 := fun_mk (st := s_law_small) l17 c17 k17
  have b17 := F17.binds (ps := ["_law_pool"]) fun _ _ _ _ _ _ us hl => match us, hl with | [_], _ => rfl
  have F18 := fun_mk (st := s_law_due) l18 c18 k18
  have b18 := F18.binds (ps := ["_law_ours", "_law_theirs"]) fun _ _ _ _ _ _ us hl => match us, hl with | [_, _], _ => rfl
  have F19 := fun_mk (st := s_law_wide_right) l19 c19 k19
  have b19 := F19.binds (ps := ["_law_ours", "_law_theirs"]) fun _ _ _ _ _ _ us hl => match us, hl with | [_, _], _ => rfl
  have F20 := fun_mk (st := s_law) l20 c20 k20
  have b20 := F20.binds (ps := ["_law_script"]) fun _ _ _ _ _ _ us hl => match us, hl with | [_], _ => rfl
  have FI_InvalidBook := fun_mk (st := si_InvalidBook) xl_InvalidBook xc_InvalidBook xki_InvalidBook
  have BI_InvalidBook := FI_InvalidBook.binds (ps := ["self", "part"]) fun _ _ _ _ _ _ us hl => match us, hl with | [_, _], _ => rfl
  have TT : Tx K mg { f_is_integer := f1, d_is_integer := _, f_is_share := f2, d_is_share := _, f_part_of := f3, d_part_of := _, f_least_hold := f4, d_least_hold := _, f_check_parts := f5, d_check_parts := _, f_Book___init__ := f6, d_Book___init__ := _, f_Book_parts := f7, d_Book_parts := _, f_Book___eq__ := f8, d_Book___eq__ := _, f_Book___le__ := f9, d_Book___le__ := _, f_step_of := f10, d_step_of := _, f_is_never_more := f11, d_is_never_more := _, f_law_hand := f12, d_law_hand := _, f_law_draw := f13, d_law_draw := _, f_law_book := f14, d_law_book := _, f_law_made := f15, d_law_made := _, f_law_step := f16, d_law_step := _, f_law_small := f17, d_law_small := _, f_law_due := f18, d_law_due := _, f_law_wide_right := f19, d_law_wide_right := _, f_law := fa, d_law := _, c_InvalidBook := c_InvalidBook, c_GrowError := c_GrowError, c_Book := c_Book, i_InvalidBook := i_InvalidBook, e_InvalidBook := _ } := { F_is_integer := F1, b_is_integer := b1, g_is_integer := PySem.W.mg_of X G a1, F_is_share := F2, b_is_share := b2, g_is_share := PySem.W.mg_of X G a2, F_part_of := F3, b_part_of := b3, g_part_of := PySem.W.mg_of X G a3, F_least_hold := F4, b_least_hold := b4, g_least_hold := PySem.W.mg_of X G a4, F_check_parts := F5, b_check_parts := b5, g_check_parts := PySem.W.mg_of X G a5, F_Book___init__ := F6, kb0_Book___init__ := kb0_6, me_Book___init__ := ⟨mi6, mf6, k6⟩, F_Book_parts := F7, b_Book_parts := b7, me_Book_parts := ⟨mi7, mf7, k7⟩, F_Book___eq__ := F8, b_Book___eq__ := b8, me_Book___eq__ := ⟨mi8, mf8, k8⟩, F_Book___le__ := F9, b_Book___le__ := b9, me_Book___le__ := ⟨mi9, mf9, k9⟩, F_step_of := F10, b_step_of := b10, g_step_of := PySem.W.mg_of X G a10, F_is_never_more := F11, b_is_never_more := b11, g_is_never_more := PySem.W.mg_of X G a11, F_law_hand := F12, b_law_hand := b12, g_law_hand := PySem.W.mg_of X G a12, F_law_draw := F13, b_law_draw := b13, g_law_draw := PySem.W.mg_of X G a13, F_law_book := F14, b_law_book := b14, g_law_book := PySem.W.mg_of X G a14, F_law_made := F15, b_law_made := b15, g_law_made := PySem.W.mg_of X G a15, F_law_step := F16, b_law_step := b16, g_law_step := PySem.W.mg_of X G a16, F_law_small := F17, b_law_small := b17, g_law_small := PySem.W.mg_of X G a17, F_law_due := F18, b_law_due := b18, g_law_due := PySem.W.mg_of X G a18, F_law_wide_right := F19, b_law_wide_right := b19, g_law_wide_right := PySem.W.mg_of X G a19, F_law := F20, b_law := b20, g_law := PySem.W.mg_of X G a20, z_bool := PySem.W.mg_none_of X G z_bool, z_int := PySem.W.mg_none_of X G z_int, z_isinstance := PySem.W.mg_none_of X G z_isinstance, z_len := PySem.W.mg_none_of X G z_len, z_max := PySem.W.mg_none_of X G z_max, z_min := PySem.W.mg_none_of X G z_min, z_range := PySem.W.mg_none_of X G z_range, z_tuple := PySem.W.mg_none_of X G z_tuple, c_MOST_GROWTH := ⟨_, PySem.W.mg_of X G c_MOST_GROWTH⟩, c_MOST_SHARE := ⟨_, PySem.W.mg_of X G c_MOST_SHARE⟩, g_InvalidBook := PySem.W.mg_of X G ga_InvalidBook, g_GrowError := PySem.W.mg_of X G ga_GrowError, g_Book := PySem.W.mg_of X G ga_Book, cl_Book := ⟨wpg_Book, whd_Book, wpo_Book, wsa_Book⟩, mk_Book := ⟨wmk_Book, mi6, mf6, wkp_Book⟩, ty_Book := fun H a dx fs e => .base (.ins e ⟨wpg_Book, whd_Book, wpo_Book, wsa_Book⟩ wcl_Book wsp_Book wtk_Book wmr_Book), kn_Book := fun k => match k with | .non => wk_non_Book | .bl => wk_bl_Book | .int => wk_int_Book | .str => wk_str_Book | .tup => wk_tup_Book | .lst => wk_lst_Book, ki_Book_Book := wi_Book_Book, na_Book_own_share := wn_Book_own_share, na_Book_own_roof := wn_Book_own_roof, na_Book_own_first := wn_Book_own_first, o_InvalidBook := ⟨⟨_, _, _, _, _, _, _, _, _, _, _, _, _, _, _, xL_InvalidBook, rfl⟩, xsa_InvalidBook, xe_InvalidBook, xty_InvalidBook, xk_InvalidBook⟩, i_InvalidBook := xi_InvalidBook, t_InvalidBook := xt_InvalidBook, n_InvalidBook := xnf_InvalidBook, FI_InvalidBook := FI_InvalidBook, BI_InvalidBook := BI_InvalidBook, x_InvalidBook := ⟨xga_InvalidBook, xgg_InvalidBook, xe_InvalidBook, xh_InvalidBook⟩, q_InvalidBook := ⟨xga_InvalidBook, xgg_InvalidBook, xe_InvalidBook, xh_InvalidBook, xcl_InvalidBook, xsp_InvalidBook, xtk_InvalidBook, xm_InvalidBook⟩ }
  exact ⟨_, fun s v => .of_eq rfl, fun base _ _ => ok_law TT⟩
end TL
open PySem PySem.W PyProof.Rows
set_option maxHeartbeats 0 in
theorem PySem.Challenge.cw_grownfiles_k09_books_compared_holds : PySem.Challenge.rw_grownfiles_k09_books_compared.Holds := by
  w_on; o_law; k_head; (case hw => w_witness2)
  k_fill
  refine L2.walk_of (l := PySem.Challenge.rw_grownfiles_k09_books_compared) (n := 63) (k := 8) (x := "_law_script") (CX := fun w => L2.CX PySem.Challenge.rw_grownfiles_k09_books_compared.prog w) (sp := fun w => TL.liftSp _ 1 TL.C_law) rfl (by decide) rfl ⟨rfl, by decide, by decide⟩ (fun w h Y => PySem.W.kIn_of Y) ?F (fun _ H a ns hl hO hS => TL.law_start hS ⟨ns, rfl, hl, fun _ => rfl⟩) (fun _ H s e s' => TL.no_law)
  case F =>
    intro w mg fa h KX G hmg
    refine' TL.all_mk KX G hmg ?a1 ?l1 ?c1 ?k1 ?a2 ?l2 ?c2 ?k2 ?a3 ?l3 ?c3 ?k3 ?a4 ?l4 ?c4 ?k4 ?a5 ?l5 ?c5 ?k5 ?a10 ?l10 ?c10 ?k10 ?a11 ?l11 ?c11 ?k11 ?a12 ?l12 ?c12 ?k12 ?a13 ?l13 ?c13 ?k13 ?a14 ?l14 ?c14 ?k14 ?a15 ?l15 ?c15 ?k15 ?a16 ?l16 ?c16 ?k16 ?a17 ?l17 ?c17 ?k17 ?a18 ?l18 ?c18 ?k18 ?a19 ?l19 ?c19 ?k19 ?a20 ?l20 ?c20 ?k20 ?z_bool ?z_int ?z_isinstance ?z_len ?z_max ?z_min ?z_range ?z_tuple ?c_MOST_GROWTH ?c_MOST_SHARE ?ga_InvalidBook ?ga_GrowError ?ga_Book ?mi6 ?mf6 ?l6 ?c6 ?k6 ?kw6_share ?mi7 ?mf7 ?l7 ?c7 ?k7 ?mi8 ?mf8 ?l8 ?c8 ?k8 ?mi9 ?mf9 ?l9 ?c9 ?k9 ?wpg_Book ?whd_Book ?wpo_Book ?wsa_Book ?wmk_Book ?wkp_Book ?wcl_Book ?wsp_Book ?wtk_Book ?wmr_Book ?wk_non_Book ?wk_bl_Book ?wk_int_Book ?wk_str_Book ?wk_tup_Book ?wk_lst_Book ?wi_Book_Book ?wn_Book_own_share ?wn_Book_own_roof ?wn_Book_own_first ?xL_InvalidBook ?xsa_InvalidBook ?xga_InvalidBook ?xgg_InvalidBook ?xnf_InvalidBook ?xi_InvalidBook ?xt_InvalidBook ?xl_InvalidBook ?xc_InvalidBook ?xki_InvalidBook ?xk_InvalidBook ?xe_InvalidBook ?xty_InvalidBook ?xh_InvalidBook ?xcl_InvalidBook ?xsp_InvalidBook ?xtk_InvalidBook ?xm_InvalidBook
    (case a1 => k_is)
    (case l1 => k_is)
    (case c1 => k_is)
    (case k1 => k_is)
    (case a2 => k_is)
    (case l2 => k_is)
    (case c2 => k_is)
    (case k2 => k_is)
    (case a3 => k_is)
    (case l3 => k_is)
    (case c3 => k_is)
    (case k3 => k_is)
    (case a4 => k_is)
    (case l4 => k_is)
    (case c4 => k_is)
    (case k4 => k_is)
    (case a5 => k_is)
    (case l5 => k_is)
    (case c5 => k_is)
    (case k5 => k_is)
    (case a10 => k_is)
    (case l10 => k_is)
    (case c10 => k_is)
    (case k10 => k_is)
    (case a11 => k_is)
    (case l11 => k_is)
    (case c11 => k_is)
    (case k11 => k_is)
    (case a12 => k_is)
    (case l12 => k_is)
    (case c12 => k_is)
    (case k12 => k_is)
    (case a13 => k_is)
    (case l13 => k_is)
    (case c13 => k_is)
    (case k13 => k_is)
    (case a14 => k_is)
    (case l14 => k_is)
    (case c14 => k_is)
    (case k14 => k_is)
    (case a15 => k_is)
    (case l15 => k_is)
    (case c15 => k_is)
    (case k15 => k_is)
    (case a16 => k_is)
    (case l16 => k_is)
    (case c16 => k_is)
    (case k16 => k_is)
    (case a17 => k_is)
    (case l17 => k_is)
    (case c17 => k_is)
    (case k17 => k_is)
    (case a18 => k_is)
    (case l18 => k_is)
    (case c18 => k_is)
    (case k18 => k_is)
    (case a19 => k_is)
    (case l19 => k_is)
    (case c19 => k_is)
    (case k19 => k_is)
    (case a20 => k_is)
    (case l20 => k_is)
    (case c20 => k_is)
    (case k20 => k_is)
    (case z_bool => k_is)
    (case z_int => k_is)
    (case z_isinstance => k_is)
    (case z_len => k_is)
    (case z_max => k_is)
    (case z_min => k_is)
    (case z_range => k_is)
    (case z_tuple => k_is)
    (case c_MOST_GROWTH => k_is)
    (case c_MOST_SHARE => k_is)
    (case ga_InvalidBook => k_is)
    (case ga_GrowError => k_is)
    (case ga_Book => k_is)
    (case mi6 => k_is)
    (case mf6 => k_is)
    (case l6 => k_is)
    (case c6 => k_is)
    (case k6 => k_is)
    (case kw6_share => k_is)
    (case mi7 => k_is)
    (case mf7 => k_is)
    (case l7 => k_is)
    (case c7 => k_is)
    (case k7 => k_is)
    (case mi8 => k_is)
    (case mf8 => k_is)
    (case l8 => k_is)
    (case c8 => k_is)
    (case k8 => k_is)
    (case mi9 => k_is)
    (case mf9 => k_is)
    (case l9 => k_is)
    (case c9 => k_is)
    (case k9 => k_is)
    (case wpg_Book => k_is)
    (case whd_Book => k_is)
    (case wpo_Book => k_is)
    (case wsa_Book => k_is)
    (case wmk_Book => k_is)
    (case wkp_Book => k_is)
    (case wcl_Book => k_is)
    (case wsp_Book => k_is)
    (case wtk_Book => k_is)
    (case wmr_Book => k_is)
    (case wk_non_Book => first | rfl | k_is)
    (case wk_bl_Book => first | rfl | k_is)
    (case wk_int_Book => first | rfl | k_is)
    (case wk_str_Book => first | rfl | k_is)
    (case wk_tup_Book => first | rfl | k_is)
    (case wk_lst_Book => first | rfl | k_is)
    (case wi_Book_Book => first | rfl | k_is)
    (case wn_Book_own_share => k_is)
    (case wn_Book_own_roof => k_is)
    (case wn_Book_own_first => k_is)
    (case xL_InvalidBook => k_is)
    (case xsa_InvalidBook => k_is)
    (case xga_InvalidBook => k_is)
    (case xgg_InvalidBook => k_is)
    (case xnf_InvalidBook => k_is)
    (case xi_InvalidBook => k_is)
    (case xt_InvalidBook => k_is)
    (case xl_InvalidBook => k_is)
    (case xc_InvalidBook => k_is)
    (case xki_InvalidBook => k_is)
    (case xk_InvalidBook => k_is)
    (case xe_InvalidBook => k_is)
    (case xty_InvalidBook => k_is)
    (case xh_InvalidBook => k_is)
    (case xcl_InvalidBook => k_is)
    (case xsp_InvalidBook => k_is)
    (case xtk_InvalidBook => k_is)
    (case xm_InvalidBook => k_is)
