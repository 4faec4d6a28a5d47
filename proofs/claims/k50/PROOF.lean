import PyProof.Rows.All
import Wide.All
import OpenK.AllK
import Wide.FinOn
import HandS.ForMost
import HandS.Exc
import HandS.ExcOwn
import HandS.WordsExc
import HandS.CallSlots
import HandS.Wide
import HandS.Deep
import HandS.IsInst
import HandS.Flow
import HandS.EndTab
import HandS.ExcInit
import HandS.ExcIs
import HandS.ExcField
import KE.KExcIs
import HandS.Property
import HandS.MakeKwOnly
import HandS.Defaults
import HandS.Style
import HandS.RaiseMore
import HandS.DictComp
import PyProof.InstNe
import PyProof.LongRange
import KE.KCallOwn
import HandS.More
import HandS.Conv
import HandS.ListItems
import HandS.Lambda
import KE.SortUse
import HandS.RevTup
import KE.KOpsOwn
import HandS.GenList
import HandS.GenYield
import HandS.NoneIn
import PyProof.WalksMore
import PyProof.SumWalkG
import KE.KDictList
import HandS.TryOnly
import HandS.Small
import HandS.TupAny
import HandS.Star
import HandS.HotCalls
import HandS.Zip
import KE.GoesZip
import KE.GoesMore
import HandS.StrMore
import HandS.TupMul
import PyProof.Rows.Range3
import PyProof.Conv_bool
import PySem.Challenge.RW_grownfiles_k50_hold_ends
set_option Elab.async false
set_option linter.all false
set_option maxRecDepth 100000
namespace TL
open PySem L2

inductive T where
  | non | bl (b : Bool) | int (i : Int) | str (x : Str)
  | tup (ts : List T) | lst (ts : List T) | ins (C : Addr) (fs : List (Str × T))
  | ref (a : Addr) | ty (n : String) | scr (ns : List Int)
  | exc (a : Addr) (cls : Value) (d : Option Addr) (fs : List (Str × T))
  | xob (C : Addr) (fs : List (Str × T))
  deriving Inhabited

inductive O where
  | lst (ts : List T) | ins (C : Addr) (fs : List (Str × T)) | pool
  | dK (kvs : List (Key × T)) | dT (kvs : List (List Key × T)) | tab (q : Str)
  | dL (u : HO) (kvs : List (Key × T))
abbrev Hq := Addr → Option O
def put (h : Hq) (a : Addr) (o : O) : Hq := fun b => if b = a then some o else h b
def del (h : Hq) (a : Addr) : Hq := fun b => if b = a then none else h b
@[simp] theorem put_same {h : Hq} {a : Addr} {o : O} : put h a o a = some o := by unfold put; rw [if_pos rfl]
theorem put_ne {h : Hq} {a b : Addr} {o : O} (e : b ≠ a) : put h a o b = h b := by unfold put; rw [if_neg e]
@[simp] theorem put_put {h : Hq} {a : Addr} {o u : O} : put (put h a o) a u = put h a u := by funext b; unfold put; split <;> rfl
theorem put_id {h : Hq} {a : Addr} {o : O} (e : h a = some o) : put h a o = h := by
  funext b; unfold put; split
  · rename_i q; rw [q, e]
  · rfl
theorem del_put {h : Hq} {a : Addr} {o : O} (e : h a = none) : del (put h a o) a = h := by
  funext b; unfold del put; split
  · rename_i q; rw [q, e]
  · rfl
theorem ne_fresh {h : Hq} {a b : Addr} {o : O} (e : h a = some o) (n : h b = none) : a ≠ b := by
  intro q; rw [q, n] at e; cases e
theorem ne_fresh' {h : Hq} {a b : Addr} {o : O} (e : h a = some o) (n : h b = none) : b ≠ a := fun q => ne_fresh e n q.symm

def KL (K : PySem.W.Frag) (a : Addr) (xs : List V) : Prop :=
  ∃ (o : Obj) (its : Array Value) (n : Nat), K.lookup a = some o ∧ o.cls = .type "list" ∧ o.dict = none ∧ o.data = .seq its n ∧ its.size ≤ sizeLine ∧ Vals xs its.toList
def KT (K : PySem.W.Frag) (a : Addr) (xs : List V) : Prop :=
  ∃ (o : Obj) (its : Array Value) (n : Nat), K.lookup a = some o ∧ o.cls = .type "tuple" ∧ o.data = .seq its n ∧ its.size ≤ sizeLine ∧ Vals xs its.toList

structure Fz where
  s : Addr → Prop
  p : Addr → Prop
def Fz.has (S : Fz) (a : Addr) : Prop := S.s a ∨ S.p a
def XOk (φ : Heap → Prop) (a C dd : Addr) : Prop := ∀ h : Heap, φ h → ∃ oe : Obj, h.get? a = some oe ∧ Zc (.ref C) (some dd) oe ∧ ∃ vs, oe.data = .fields vs
mutual
inductive Rep (K : PySem.W.Frag) (S : Fz) (H : Hp) : V → T → Prop
  | non : Rep K S H .non .non
  | bl (b : Bool) : Rep K S H (.bl b) (.bl b)
  | int (i : Int) : Rep K S H (.int i) (.int i)
  | str (x : Str) : Rep K S H (.str x) (.str x)
  | tup {a : Addr} {vs : List V} {ts : List T} : S.s a → H a = some (.tup vs) → RepL K S H vs ts → Rep K S H (.ref a) (.tup ts)
  | tupK {a : Addr} {vs : List V} {ts : List T} : KT K a vs → RepL K S H vs ts → Rep K S H (.ref a) (.tup ts)
  | lst {a : Addr} {vs : List V} {ts : List T} : S.s a → H a = some (.lst vs) → RepL K S H vs ts → Rep K S H (.ref a) (.lst ts)
  | scr {a : Addr} {ns : List Int} : S.s a → Rd H a (.lst (ns.map V.int)) → Rep K S H (.ref a) (.scr ns)
  | scrK {a : Addr} {ns : List Int} : KL K a (ns.map V.int) → Rep K S H (.ref a) (.scr ns)
  | ins {a C dx : Addr} {fs : List (Str × V)} {gs : List (Str × T)} : S.s a → H a = some (.ins C dx fs) → RepF K S H fs gs → Rep K S H (.ref a) (.ins C gs)
  | ref (a : Addr) : Rep K S H (.ref a) (.ref a)
  | ty (n : String) : Rep K S H (.ty n) (.ty n)
  | exc {a dd : Addr} {cls : Value} {fs : List (Str × V)} {gs : List (Str × T)} : S.s dd → H dd = some (.xd fs) → RepF K S H fs gs → Rep K S H (.ref a) (.exc a cls (some dd) gs)
  | exc0 {a : Addr} {cls : Value} : Rep K S H (.ref a) (.exc a cls none [])
  | xob {a dd C : Addr} {φ : Heap → Prop} {fs : List (Str × V)} {gs : List (Str × T)} : S.s a → H a = some (.ext φ) → XOk φ a C dd → S.s dd → H dd = some (.xd fs) → RepF K S H fs gs → Rep K S H (.ref a) (.xob C gs)
inductive RepL (K : PySem.W.Frag) (S : Fz) (H : Hp) : List V → List T → Prop
  | nil : RepL K S H [] []
  | cons {v : V} {vs : List V} {t : T} {ts : List T} : Rep K S H v t → RepL K S H vs ts → RepL K S H (v :: vs) (t :: ts)
inductive RepF (K : PySem.W.Frag) (S : Fz) (H : Hp) : List (Str × V) → List (Str × T) → Prop
  | nil : RepF K S H [] []
  | cons {f : Str} {v : V} {vs : List (Str × V)} {t : T} {ts : List (Str × T)} : Rep K S H v t → RepF K S H vs ts → RepF K S H ((f, v) :: vs) ((f, t) :: ts)
end

structure Fut (S : Fz) (H : Hp) (S1 : Fz) (H1 : Hp) : Prop where
  sub : ∀ a, S.s a → S1.s a
  kp : ∀ a, S.has a → H1 a = H a
  pe : S1.p = S.p
theorem Fut.refl {S : Fz} {H : Hp} : Fut S H S H := ⟨fun _ h => h, fun _ _ => rfl, rfl⟩
theorem Fut.trans {S S1 S2 : Fz} {H H1 H2 : Hp} (a : Fut S H S1 H1) (b : Fut S1 H1 S2 H2) : Fut S H S2 H2 :=
  ⟨fun x h => b.sub x (a.sub x h), fun x h => (b.kp x (h.elim (fun z => .inl (a.sub x z)) fun z => .inr (a.pe ▸ z))).trans (a.kp x h), b.pe.trans a.pe⟩
theorem Fut.rd {S S1 : Fz} {H H1 : Hp} (f : Fut S H S1 H1) {a : Addr} {u : HO} (s : S.s a) (h : Rd H a u) : Rd H1 a u := by
  unfold Rd at *; rw [f.kp a (.inl s)]; exact h
structure Fu (S : Fz) (H : Hp) (S1 : Fz) (H1 : Hp) : Prop where
  sub : ∀ a, S.s a → S1.s a
  kp : ∀ a, S.s a → H1 a = H a
theorem Fut.fu {S S1 : Fz} {H H1 : Hp} (f : Fut S H S1 H1) : Fu S H S1 H1 := ⟨f.sub, fun a s => f.kp a (.inl s)⟩
theorem Fu.trans {S S1 S2 : Fz} {H H1 H2 : Hp} (a : Fu S H S1 H1) (b : Fu S1 H1 S2 H2) : Fu S H S2 H2 := ⟨fun x h => b.sub x (a.sub x h), fun x h => (b.kp x (a.sub x h)).trans (a.kp x h)⟩
theorem Fu.rd {S S1 : Fz} {H H1 : Hp} (f : Fu S H S1 H1) {a : Addr} {u : HO} (s : S.s a) (h : Rd H a u) : Rd H1 a u := by
  unfold Rd at *; rw [f.kp a s]; exact h
section
variable {K : PySem.W.Frag} {S S1 : Fz} {H H1 : Hp}
mutual
theorem Rep.fu (f : Fu S H S1 H1) : ∀ {v : V} {t : T}, Rep K S H v t → Rep K S1 H1 v t
  | _, _, .non => .non
  | _, _, .bl b => .bl b
  | _, _, .int i => .int i
  | _, _, .str x => .str x
  | _, _, .tup s h r => .tup (f.sub _ s) ((f.kp _ s).trans h) (RepL.fu f r)
  | _, _, .tupK h r => .tupK h (RepL.fu f r)
  | _, _, .lst s h r => .lst (f.sub _ s) ((f.kp _ s).trans h) (RepL.fu f r)
  | _, _, .scr s h => .scr (f.sub _ s) (f.rd s h)
  | _, _, .scrK h => .scrK h
  | _, _, .ins s h r => .ins (f.sub _ s) ((f.kp _ s).trans h) (RepF.fu f r)
  | _, _, .ref a => .ref a
  | _, _, .ty n => .ty n
  | _, _, .exc s h r => .exc (f.sub _ s) ((f.kp _ s).trans h) (RepF.fu f r)
  | _, _, .exc0 => .exc0
  | _, _, .xob s h k s' h' r => .xob (f.sub _ s) ((f.kp _ s).trans h) k (f.sub _ s') ((f.kp _ s').trans h') (RepF.fu f r)
theorem RepL.fu (f : Fu S H S1 H1) : ∀ {v : List V} {t : List T}, RepL K S H v t → RepL K S1 H1 v t
  | _, _, .nil => .nil
  | _, _, .cons r q => .cons (Rep.fu f r) (RepL.fu f q)
theorem RepF.fu (f : Fu S H S1 H1) : ∀ {v : List (Str × V)} {t : List (Str × T)}, RepF K S H v t → RepF K S1 H1 v t
  | _, _, .nil => .nil
  | _, _, .cons r q => .cons (Rep.fu f r) (RepF.fu f q)
end
theorem Rep.fut (f : Fut S H S1 H1) {v : V} {t : T} (r : Rep K S H v t) : Rep K S1 H1 v t := r.fu f.fu
theorem RepL.fut (f : Fut S H S1 H1) {v : List V} {t : List T} (r : RepL K S H v t) : RepL K S1 H1 v t := r.fu f.fu
theorem RepF.fut (f : Fut S H S1 H1) {v : List (Str × V)} {t : List (Str × T)} (r : RepF K S H v t) : RepF K S1 H1 v t := r.fu f.fu
mutual
theorem Rep.fut' (f : ∀ a, S.s a → S1.s a) : ∀ {v : V} {t : T}, Rep K S H v t → Rep K S1 H v t
  | _, _, .non => .non
  | _, _, .bl b => .bl b
  | _, _, .int i => .int i
  | _, _, .str x => .str x
  | _, _, .tup s h r => .tup (f _ s) h (RepL.fut' f r)
  | _, _, .tupK h r => .tupK h (RepL.fut' f r)
  | _, _, .lst s h r => .lst (f _ s) h (RepL.fut' f r)
  | _, _, .scr s h => .scr (f _ s) h
  | _, _, .scrK h => .scrK h
  | _, _, .ins s h r => .ins (f _ s) h (RepF.fut' f r)
  | _, _, .ref a => .ref a
  | _, _, .ty n => .ty n
  | _, _, .exc s h r => .exc (f _ s) h (RepF.fut' f r)
  | _, _, .exc0 => .exc0
  | _, _, .xob s h k s' h' r => .xob (f _ s) h k (f _ s') h' (RepF.fut' f r)
theorem RepL.fut' (f : ∀ a, S.s a → S1.s a) : ∀ {v : List V} {t : List T}, RepL K S H v t → RepL K S1 H v t
  | _, _, .nil => .nil
  | _, _, .cons r q => .cons (Rep.fut' f r) (RepL.fut' f q)
theorem RepF.fut' (f : ∀ a, S.s a → S1.s a) : ∀ {v : List (Str × V)} {t : List (Str × T)}, RepF K S H v t → RepF K S1 H v t
  | _, _, .nil => .nil
  | _, _, .cons r q => .cons (Rep.fut' f r) (RepF.fut' f q)
end
theorem Rep.scr_sq {v : V} {ns : List Int} (r : Rep K S H v (.scr ns)) : ∃ a, v = .ref a ∧ SqL K H a (ns.map V.int) ∧ ∀ S1 H1, Fu S H S1 H1 → SqL K H1 a (ns.map V.int) := by
  cases r with
  | scr s h => exact ⟨_, rfl, .inl h, fun S1 H1 f => .inl (f.rd s h)⟩
  | scrK h => exact ⟨_, rfl, .inr h, fun S1 H1 f => .inr h⟩
theorem RepL.length : ∀ {v : List V} {t : List T}, RepL K S H v t → v.length = t.length
  | _, _, .nil => rfl
  | _, _, .cons _ q => congrArg (· + 1) (RepL.length q)
theorem RepL.get : ∀ {v : List V} {t : List T} {i : Nat} {y : T}, RepL K S H v t → t[i]? = some y → ∃ x, v[i]? = some x ∧ Rep K S H x y
  | _, _, _, _, .nil, e => by simp at e
  | _, _, 0, _, .cons r _, e => by simp at e; subst e; exact ⟨_, rfl, r⟩
  | _, _, i + 1, y, .cons _ q, e => by
    obtain ⟨x, h1, h2⟩ := RepL.get (i := i) (y := y) q (by simpa using e)
    exact ⟨x, by simpa using h1, h2⟩
theorem RepL.append : ∀ {v w : List V} {t u : List T}, RepL K S H v t → RepL K S H w u → RepL K S H (v ++ w) (t ++ u)
  | _, _, _, _, .nil, s => s
  | _, _, _, _, .cons r q, s => .cons r (RepL.append q s)
theorem RepL.take : ∀ (n : Nat) {v : List V} {t : List T}, RepL K S H v t → RepL K S H (v.take n) (t.take n)
  | 0, _, _, _ => .nil
  | _ + 1, _, _, .nil => .nil
  | n + 1, _, _, .cons r q => .cons r (RepL.take n q)
theorem RepL.drop : ∀ (n : Nat) {v : List V} {t : List T}, RepL K S H v t → RepL K S H (v.drop n) (t.drop n)
  | 0, _, _, r => r
  | _ + 1, _, _, .nil => .nil
  | n + 1, _, _, .cons _ q => RepL.drop n q
theorem RepL.set {x : V} {y : T} (r : Rep K S H x y) : ∀ (i : Nat) {v : List V} {t : List T}, RepL K S H v t → RepL K S H (v.set i x) (t.set i y)
  | _, _, _, .nil => .nil
  | 0, _, _, .cons _ q => .cons r q
  | i + 1, _, _, .cons p q => .cons p (RepL.set r i q)
theorem RepL.dropLast : ∀ {v : List V} {t : List T}, RepL K S H v t → RepL K S H v.dropLast t.dropLast
  | _, _, .nil => .nil
  | _, _, .cons r .nil => .nil
  | _, _, .cons r (.cons p q) => .cons r (RepL.dropLast (.cons p q))
theorem RepL.replicate (n : Nat) {v : List V} {t : List T} (r : RepL K S H v t) : RepL K S H (List.replicate n v).flatten (List.replicate n t).flatten := by
  induction n with
  | zero => exact .nil
  | succ n ih => rw [List.replicate_succ, List.replicate_succ, List.flatten_cons, List.flatten_cons]; exact r.append ih
theorem RepL.ints : ∀ {v : List V} {ns : List Int}, RepL K S H v (ns.map T.int) → v = ns.map V.int
  | _, [], .nil => rfl
  | _, n :: ns, .cons r q => by
    cases r
    rw [RepL.ints (ns := ns) q]
    rfl
theorem RepL.of_ints : ∀ (ns : List Int), RepL K S H (ns.map V.int) (ns.map T.int)
  | [] => .nil
  | n :: ns => .cons (.int n) (RepL.of_ints ns)
theorem RepL.bls : ∀ {v : List V} {ns : List Bool}, RepL K S H v (ns.map T.bl) → v = ns.map V.bl
  | _, [], .nil => rfl
  | _, n :: ns, .cons r q => by
    cases r
    rw [RepL.bls (ns := ns) q]
    rfl
end

def RepD {κ : Type} (K : PySem.W.Frag) (S : Fz) (H : Hp) (kvs : List (κ × V)) (gs : List (κ × T)) : Prop := kvs.map (·.1) = gs.map (·.1) ∧ RepL K S H (kvs.map (·.2)) (gs.map (·.2))
def RepO (K : PySem.W.Frag) (S : Fz) (H : Hp) (u : HO) : O → Prop
  | .lst ts => ∃ vs, u = .lst vs ∧ RepL K S H vs ts
  | .ins C gs => ∃ dx fs, u = .ins C dx fs ∧ RepF K S H fs gs
  | .pool => ∃ a b : Int, u = .lst [.int a, .int b] ∧ 0 ≤ a ∧ 0 ≤ b ∧ b < 2147483647
  | .dK gs => ∃ kvs, u = .dK kvs ∧ RepD K S H kvs gs
  | .dT gs => ∃ kvs, u = .dT kvs ∧ RepD K S H kvs gs
  | .dL u0 gs => u = u0 ∧ ∃ o kvs, u0 = .frz o (.dK kvs) ∧ RepD K S H kvs gs
  | .tab q => ∃ ps : Array Value, u = .tbl ps ∧ TriplesOk ps.toList ∧ ∀ (pos : Pos) (cv : Value), codeAmong pos ps.toList = some cv → ∃ c, cv = .ref c ∧ S.s c ∧ H c = some (LamX.CodeO c q)
theorem RepO.fut {K : PySem.W.Frag} {S S1 : Fz} {H H1 : Hp} {u : HO} (f : Fut S H S1 H1) : ∀ {o : O}, RepO K S H u o → RepO K S1 H1 u o
  | .lst _, ⟨vs, e, r⟩ => ⟨vs, e, r.fut f⟩
  | .ins _ _, ⟨dx, fs, e, r⟩ => ⟨dx, fs, e, r.fut f⟩
  | .pool, r => r
  | .dK _, ⟨vs, e, r⟩ => ⟨vs, e, r.1, r.2.fut f⟩
  | .dT _, ⟨vs, e, r⟩ => ⟨vs, e, r.1, r.2.fut f⟩
  | .tab _, ⟨ps, e, t, r⟩ => ⟨ps, e, t, fun pos cv hc => let ⟨c, e1, s1, h1⟩ := r pos cv hc; ⟨c, e1, f.sub c s1, (f.kp c (.inl s1)).trans h1⟩⟩
  | .dL _ _, ⟨e0, o, vs, e, r⟩ => ⟨e0, o, vs, e, r.1, r.2.fut f⟩

theorem RepO.fut' {K : PySem.W.Frag} {S S1 : Fz} {H : Hp} {u : HO} (f : ∀ a, S.s a → S1.s a) : ∀ {o : O}, RepO K S H u o → RepO K S1 H u o
  | .lst _, ⟨vs, e, r⟩ => ⟨vs, e, r.fut' f⟩
  | .ins _ _, ⟨dx, fs, e, r⟩ => ⟨dx, fs, e, r.fut' f⟩
  | .pool, r => r
  | .dK _, ⟨vs, e, r⟩ => ⟨vs, e, r.1, r.2.fut' f⟩
  | .dT _, ⟨vs, e, r⟩ => ⟨vs, e, r.1, r.2.fut' f⟩
  | .tab _, ⟨ps, e, t, r⟩ => ⟨ps, e, t, fun pos cv hc => let ⟨c, e1, s1, h1⟩ := r pos cv hc; ⟨c, e1, f c s1, h1⟩⟩
  | .dL _ _, ⟨e0, o, vs, e, r⟩ => ⟨e0, o, vs, e, r.1, r.2.fut' f⟩

structure Sim (K : PySem.W.Frag) (S : Fz) (H : Hp) (h : Hq) : Prop where
  fr : ∀ a, S.has a → h a = none
  al : ∀ a, S.has a → H a ≠ none
  dj : ∀ a, S.s a → ¬ S.p a
  ob : ∀ a o, h a = some o → ∃ u, H a = some u ∧ RepO K S H u o
section
variable {K : PySem.W.Frag} {S : Fz} {H : Hp} {h : Hq}
theorem Sim.free (m : Sim K S H h) {p : Addr} (e : H p = none) : h p = none := by
  cases q : h p with
  | none => rfl
  | some o =>
    obtain ⟨u, r, _⟩ := m.ob p o q
    rw [e] at r; cases r
theorem Sim.nS (m : Sim K S H h) {p : Addr} (e : H p = none) : ¬ S.has p := fun s => m.al p s e
theorem Sim.nS' (m : Sim K S H h) {p : Addr} {o : O} (e : h p = some o) : ¬ S.has p := fun s => by
  rw [m.fr p s] at e; cases e
theorem neS {a p : Addr} (s : S.has a) (n : ¬ S.has p) : a ≠ p := fun e => n (e ▸ s)
theorem fut_upd {p : Addr} {u : HO} (n : ¬ S.has p) : Fut S H S (upd H p u) := ⟨fun _ s => s, fun a s => upd_ne (neS s n), rfl⟩
theorem Sim.new (m : Sim K S H h) {p : Addr} {u : HO} {o : O} (e : H p = none) (r : RepO K S H u o) : Sim K S (upd H p u) (put h p o) where
  fr := fun a s => by rw [put_ne (neS s (m.nS e))]; exact m.fr a s
  al := fun a s => by rw [upd_ne (neS s (m.nS e))]; exact m.al a s
  dj := m.dj
  ob := fun a o' q => by
    have f : Fut S H S (upd H p u) := fut_upd (m.nS e)
    by_cases c : a = p
    · subst c; rw [put_same] at q; cases q; exact ⟨u, upd_same, r.fut f⟩
    · rw [put_ne c] at q
      obtain ⟨w, q1, q2⟩ := m.ob a o' q
      exact ⟨w, by rw [upd_ne c]; exact q1, q2.fut f⟩
theorem Sim.write (m : Sim K S H h) {p : Addr} {u : HO} {o o' : O} (e : h p = some o) (r : RepO K S H u o') : Sim K S (upd H p u) (put h p o') where
  fr := fun a s => by rw [put_ne (neS s (m.nS' e))]; exact m.fr a s
  al := fun a s => by rw [upd_ne (neS s (m.nS' e))]; exact m.al a s
  dj := m.dj
  ob := fun a o2 q => by
    have f : Fut S H S (upd H p u) := fut_upd (m.nS' e)
    by_cases c : a = p
    · subst c; rw [put_same] at q; cases q; exact ⟨u, upd_same, r.fut f⟩
    · rw [put_ne c] at q
      obtain ⟨w, q1, q2⟩ := m.ob a o2 q
      exact ⟨w, by rw [upd_ne c]; exact q1, q2.fut f⟩
theorem Sim.side' (m : Sim K S H h) {p : Addr} {u : HO} (e : h p = none) (n : ¬ S.has p) : Sim K S (upd H p u) h where
  fr := m.fr
  al := fun a s => by rw [upd_ne (neS s n)]; exact m.al a s
  dj := m.dj
  ob := fun a o q => by
    obtain ⟨w, q1, q2⟩ := m.ob a o q
    exact ⟨w, by rw [upd_ne fun z => by rw [z, e] at q; cases q]; exact q1, q2.fut (fut_upd n)⟩
theorem Sim.side (m : Sim K S H h) {p : Addr} {u : HO} (e : H p = none) : Sim K S (upd H p u) h := m.side' (m.free e) (m.nS e)
def plus (S : Fz) (p : Addr) : Fz := ⟨fun a => S.s a ∨ a = p, S.p⟩
def prot (S : Fz) (p : Addr) : Fz := ⟨S.s, fun a => S.p a ∨ a = p⟩
theorem fut_plus {p : Addr} {H1 : Hp} (f : Fut S H S H1) : Fut S H (plus S p) H1 := ⟨fun _ s => .inl s, f.kp, rfl⟩
theorem Sim.plus (m : Sim K S H h) {p : Addr} (e : h p = none) (n : H p ≠ none) (d : ¬ S.p p) : Sim K (plus S p) H h where
  fr := fun a s => by
    rcases s with (s | s) | s
    · exact m.fr a (.inl s)
    · rw [s]; exact e
    · exact m.fr a (.inr s)
  al := fun a s => by
    rcases s with (s | s) | s
    · exact m.al a (.inl s)
    · rw [s]; exact n
    · exact m.al a (.inr s)
  dj := fun a s => by
    rcases s with s | s
    · exact m.dj a s
    · rw [s]; exact d
  ob := fun a o q => by
    obtain ⟨w, q1, q2⟩ := m.ob a o q
    exact ⟨w, q1, q2.fut (fut_plus Fut.refl)⟩
theorem Sim.frozen (m : Sim K S H h) {p : Addr} {u : HO} (e : H p = none) : Sim K (TL.plus S p) (upd H p u) h ∧ Fut S H (TL.plus S p) (upd H p u) :=
  ⟨(m.side e).plus (m.free e) (by rw [upd_same]; exact fun z => nomatch z) (fun z => m.nS e (.inr z)), fut_plus (fut_upd (m.nS e))⟩
theorem Sim.sub (m : Sim K S H h) {h' : Hq} (e : ∀ a o, h' a = some o → h a = some o) : Sim K S H h' where
  fr := fun a s => by
    cases q : h' a with
    | none => rfl
    | some o => exact absurd (e a o q) (by rw [m.fr a s]; exact fun z => nomatch z)
  al := m.al
  dj := m.dj
  ob := fun a o q => m.ob a o (e a o q)
theorem Sim.del (m : Sim K S H h) {p : Addr} : Sim K S H (TL.del h p) := m.sub fun a o q => by
  unfold TL.del at q; split at q
  · cases q
  · exact q
theorem Sim.freeze (m : Sim K S H h) {p : Addr} {o : O} (e : h p = some o) : Sim K (TL.plus S p) H (TL.del h p) := by
  obtain ⟨u, q, _⟩ := m.ob p o e
  exact m.del.plus (by unfold TL.del; rw [if_pos rfl]) (by rw [q]; exact fun z => nomatch z) (fun z => m.nS' e (.inr z))
theorem Rep.noP {S1 : Fz} (e : S1.s = S.s) {v : V} {t : T} : Rep K S H v t → Rep K S1 H v t := fun r => r.fut' fun a s => by rw [e]; exact s
theorem Sim.prot (m : Sim K S H h) {p : Addr} (e : h p = none) (n : H p ≠ none) (d : ¬ S.s p) : Sim K (TL.prot S p) H h where
  fr := fun a s => by
    rcases s with s | s | s
    · exact m.fr a (.inl s)
    · exact m.fr a (.inr s)
    · rw [s]; exact e
  al := fun a s => by
    rcases s with s | s | s
    · exact m.al a (.inl s)
    · exact m.al a (.inr s)
    · rw [s]; exact n
  dj := fun a s z => by
    rcases z with z | z
    · exact m.dj a s z
    · exact d (z ▸ s)
  ob := fun a o q => by
    obtain ⟨w, q1, q2⟩ := m.ob a o q
    exact ⟨w, q1, RepO.fut' (S := S) (S1 := TL.prot S p) (fun _ s => s) q2⟩
def unp (S S1 : Fz) : Fz := ⟨S1.s, S.p⟩
theorem Sim.unp {S1 : Fz} {H1 : Hp} {h1 : Hq} (m : Sim K S1 H1 h1) {p : Addr} (e : S1.p = (TL.prot S p).p) : Sim K (TL.unp S S1) H1 h1 where
  fr := fun a s => m.fr a (s.elim .inl fun z => .inr (by rw [e]; exact .inl z))
  al := fun a s => m.al a (s.elim .inl fun z => .inr (by rw [e]; exact .inl z))
  dj := fun a s z => m.dj a s (by rw [e]; exact .inl z)
  ob := fun a o q => by
    obtain ⟨w, q1, q2⟩ := m.ob a o q
    exact ⟨w, q1, RepO.fut' (S := S1) (S1 := TL.unp S S1) (fun _ s => s) q2⟩
theorem Fut.unp {S1 : Fz} {H1 : Hp} {p : Addr} (f : Fut (TL.prot S p) H S1 H1) : Fut S H (TL.unp S S1) H1 := ⟨fun a s => f.sub a s, fun a s => f.kp a (s.elim .inl fun z => .inr (.inl z)), rfl⟩
end

abbrev Sl := List (Option T)
structure RepS (K : PySem.W.Frag) (S : Fz) (H : Hp) (σ : L2.St) (s : Sl) : Prop where
  len : σ.length = s.length
  at_ : ∀ (i : Nat) t, s[i]? = some (some t) → ∃ v, σ[i]? = some (some v) ∧ Rep K S H v t
section
variable {K : PySem.W.Frag} {S S1 : Fz} {H H1 : Hp} {σ : L2.St} {s : Sl}
theorem RepS.fut (f : Fut S H S1 H1) (r : RepS K S H σ s) : RepS K S1 H1 σ s := ⟨r.len, fun i t e => by
  obtain ⟨v, h1, h2⟩ := r.at_ i t e
  exact ⟨v, h1, h2.fut f⟩⟩
theorem RepS.fu (f : Fu S H S1 H1) (r : RepS K S H σ s) : RepS K S1 H1 σ s := ⟨r.len, fun i t e => by
  obtain ⟨v, h1, h2⟩ := r.at_ i t e
  exact ⟨v, h1, h2.fu f⟩⟩
theorem RepS.set (r : RepS K S H σ s) {v : V} {t : T} (q : Rep K S H v t) (i : Nat) : RepS K S H (σ.set i (some v)) (s.set i (some t)) := ⟨by simp [r.len], fun j u e => by
  by_cases c : i = j
  · subst c
    have hl : i < s.length := by
      have := (List.getElem?_eq_some_iff.mp e).1
      simpa using this
    rw [List.getElem?_set_self hl] at e
    cases e
    exact ⟨v, by rw [List.getElem?_set_self (by rw [r.len]; exact hl)], q⟩
  · rw [List.getElem?_set_ne c] at e
    obtain ⟨w, h1, h2⟩ := r.at_ j u e
    exact ⟨w, by rw [List.getElem?_set_ne c]; exact h1, h2⟩⟩
theorem RepS.start {N : List Str} : ∀ {vs : List V} {ts : List T}, RepL K S H vs ts → vs.length ≤ N.length → RepS K S H (L2.start N vs) (ts.map some ++ List.replicate (N.length - ts.length) none) := fun {vs ts} r hl => by
  have e := r.length
  refine ⟨by simp [L2.start, e], fun i t q => ?_⟩
  by_cases c : i < ts.length
  · rw [List.getElem?_append_left (by simpa using c), List.getElem?_map] at q
    cases z : ts[i]? with
    | none => rw [z] at q; cases q
    | some y =>
      rw [z] at q
      cases q
      obtain ⟨x, h1, h2⟩ := r.get z
      refine ⟨x, ?_, h2⟩
      unfold L2.start
      rw [List.getElem?_append_left (by simpa [e] using c), List.getElem?_map, h1]
      rfl
  · rw [List.getElem?_append_right (by simpa using c), List.getElem?_replicate] at q
    split at q
    · cases q
    · cases q
theorem RepS.fut' (f : ∀ a, S.s a → S1.s a) (r : RepS K S H σ s) : RepS K S1 H σ s := ⟨r.len, fun i t e => by
  obtain ⟨v, h1, h2⟩ := r.at_ i t e
  exact ⟨v, h1, h2.fut' f⟩⟩
end
end TL

namespace TL
open PySem L2

structure Ex where
  cls : Value
  fs : List (Str × T)
abbrev EX := Ex → Sl → Hq → Prop
abbrev TK := T → Hq → Prop
abbrev EM := Sl → Hq → TK → EX → Prop
abbrev TM := Sl → Hq → (Bool → Hq → Prop) → EX → Prop
abbrev AM := Sl → Hq → (List T → Hq → Prop) → EX → Prop
abbrev OM := Sl → Hq → (Option Int → Hq → Prop) → EX → Prop
abbrev SK := Sl → Hq → Prop
abbrev GM := T → Sl → Hq → SK → EX → Prop
abbrev GMs := List T → Sl → Hq → SK → EX → Prop
abbrev IM := Sl → Hq → (List T → (Hq → Prop) → Hq → Prop) → EX → Prop
structure En where
  nx : SK
  rt : TK
  bk : SK := fun _ _ => False
  ct : SK := fun _ _ => False
  ex : EX := fun _ _ _ => False
abbrev SM := En → Sl → Hq → Prop
abbrev Con := List T → Hq → TK → (Ex → Hq → Prop) → Prop

def RepX (K : PySem.W.Frag) (S : Fz) (H : Hp) (cls : Value) (d : Option Addr) (x : Ex) : Prop :=
  cls = x.cls ∧ ((d = none ∧ x.fs = []) ∨ ∃ dd fs, d = some dd ∧ S.s dd ∧ H dd = some (.xd fs) ∧ RepF K S H fs x.fs)

def LkX (K : PySem.W.Frag) (W : WX) (S : Fz) (H : Hp) (E : EX) : Prop := ∀ S1 H1 h1 σ1 s1 x cls d, Fut S H S1 H1 → Sim K S1 H1 h1 → RepS K S1 H1 σ1 s1 → RepX K S1 H1 cls d x → E x s1 h1 → W cls d σ1 H1
def PK (K : PySem.W.Frag) (S : Fz) (H : Hp) (Q : TK) (Q' : VK) : Prop := ∀ S1 H1 h1 v u, Fut S H S1 H1 → Sim K S1 H1 h1 → Rep K S1 H1 v u → Q u h1 → Q' v H1
def PB (K : PySem.W.Frag) (S : Fz) (H : Hp) (Q : Bool → Hq → Prop) (Q' : Bool → Hp → Prop) : Prop := ∀ S1 H1 h1 b, Fut S H S1 H1 → Sim K S1 H1 h1 → Q b h1 → Q' b H1
def PL (K : PySem.W.Frag) (S : Fz) (H : Hp) (Q : List T → Hq → Prop) (Q' : List V → Hp → Prop) : Prop := ∀ S1 H1 h1 v u, Fut S H S1 H1 → Sim K S1 H1 h1 → RepL K S1 H1 v u → Q u h1 → Q' v H1
def PSl (K : PySem.W.Frag) (S : Fz) (H : Hp) (Q : SK) (Q' : L2.St → Hp → Prop) : Prop := ∀ S1 H1 h1 σ s, Fut S H S1 H1 → Sim K S1 H1 h1 → RepS K S1 H1 σ s → Q s h1 → Q' σ H1
structure LkD (K : PySem.W.Frag) (W : WX) (S : Fz) (H : Hp) (D : En) (D' : Ends) : Prop where
  nx : PSl K S H D.nx D'.nx
  rt : PK K S H D.rt D'.rt
  bk : PSl K S H D.bk D'.bk
  ct : PSl K S H D.ct D'.ct
  ex : LkX K W S H D.ex
section
variable {K : PySem.W.Frag} {W : WX} {S S1 : Fz} {H H1 : Hp}
theorem LkX.fut {E : EX} (l : LkX K W S H E) (f : Fut S H S1 H1) : LkX K W S1 H1 E := fun S2 H2 h2 σ s x c d g => l S2 H2 h2 σ s x c d (f.trans g)
theorem PK.fut {Q : TK} {Q' : VK} (l : PK K S H Q Q') (f : Fut S H S1 H1) : PK K S1 H1 Q Q' := fun S2 H2 h2 v u g => l S2 H2 h2 v u (f.trans g)
theorem PB.fut {Q : Bool → Hq → Prop} {Q' : Bool → Hp → Prop} (l : PB K S H Q Q') (f : Fut S H S1 H1) : PB K S1 H1 Q Q' := fun S2 H2 h2 v g => l S2 H2 h2 v (f.trans g)
theorem PL.fut {Q : List T → Hq → Prop} {Q' : List V → Hp → Prop} (l : PL K S H Q Q') (f : Fut S H S1 H1) : PL K S1 H1 Q Q' := fun S2 H2 h2 v u g => l S2 H2 h2 v u (f.trans g)
theorem PSl.fut {Q : SK} {Q' : L2.St → Hp → Prop} (l : PSl K S H Q Q') (f : Fut S H S1 H1) : PSl K S1 H1 Q Q' := fun S2 H2 h2 v u g => l S2 H2 h2 v u (f.trans g)
theorem LkD.fut {D : En} {D' : Ends} (l : LkD K W S H D D') (f : Fut S H S1 H1) : LkD K W S1 H1 D D' := ⟨l.nx.fut f, l.rt.fut f, l.bk.fut f, l.ct.fut f, l.ex.fut f⟩
end

def liftE (K : PySem.W.Frag) (W : WX) (m : EM) : TE := fun σ H Q' => ∃ S h s Q E, Sim K S H h ∧ RepS K S H σ s ∧ LkX K W S H E ∧ m s h Q E ∧ PK K S H Q Q'
def liftT (K : PySem.W.Frag) (W : WX) (m : TM) : TT := fun σ H Q' => ∃ S h s Q E, Sim K S H h ∧ RepS K S H σ s ∧ LkX K W S H E ∧ m s h Q E ∧ PB K S H Q Q'
def liftA (K : PySem.W.Frag) (W : WX) (m : AM) : TA := fun σ H Q' => ∃ S h s Q E, Sim K S H h ∧ RepS K S H σ s ∧ LkX K W S H E ∧ m s h Q E ∧ PL K S H Q Q'
def liftO (K : PySem.W.Frag) (W : WX) (m : OM) : TO := fun σ H Q' => ∃ S h s Q E, Sim K S H h ∧ RepS K S H σ s ∧ LkX K W S H E ∧ m s h Q E ∧ ∀ S1 H1 h1 o, Fut S H S1 H1 → Sim K S1 H1 h1 → Q o h1 → Q' o H1
def liftS (K : PySem.W.Frag) (W : WX) (m : SM) : TS := fun D' σ H => ∃ S h s D, Sim K S H h ∧ RepS K S H σ s ∧ LkD K W S H D D' ∧ m D s h
def liftG (K : PySem.W.Frag) (W : WX) (m : GM) : TG := fun v σ H Q' => ∃ S h s t Q E, Sim K S H h ∧ RepS K S H σ s ∧ Rep K S H v t ∧ LkX K W S H E ∧ m t s h Q E ∧ PSl K S H Q Q'
def liftGs (K : PySem.W.Frag) (W : WX) (m : GMs) : TGs := fun v σ H Q' => ∃ S h s t Q E, Sim K S H h ∧ RepS K S H σ s ∧ RepL K S H v t ∧ LkX K W S H E ∧ m t s h Q E ∧ PSl K S H Q Q'
def ItRep (K : PySem.W.Frag) (S : Fz) (H : Hp) (J : It) (ts : List T) (stay : Hq → Prop) : Prop := ∀ S1 H1 h1, Fu S H S1 H1 → Sim K S1 H1 h1 → stay h1 →
  (∀ (i : Nat) t, ts[i]? = some t → J.go i H1 ∧ ∀ x H2, J.yld i H1 x H2 → ∃ S2, Fut S1 H1 S2 H2 ∧ Sim K S2 H2 h1 ∧ Rep K S2 H2 x t) ∧ J.stop ts.length H1
def liftI (K : PySem.W.Frag) (W : WX) (m : IM) : TI := fun σ H R => ∃ S h s Q E, Sim K S H h ∧ RepS K S H σ s ∧ LkX K W S H E ∧ m s h Q E ∧ ∀ S1 H1 h1 J ts stay, Fut S H S1 H1 → Sim K S1 H1 h1 → ItRep K S1 H1 J ts stay → Q ts stay h1 → R J H1

def JE (X : Cx) (W : WX) (e : Expr) (m : EM) : Prop := PE X e (liftE X.K W m)
def JT (X : Cx) (W : WX) (e : Expr) (m : TM) : Prop := PT X e (liftT X.K W m)
def JW (X : Cx) (W : WX) (e : Expr) (m : TM) : Prop := PW X e (liftT X.K W m)
def JA (X : Cx) (W : WX) (es : List Expr) (m : AM) : Prop := PA X es (liftA X.K W m)
def JO (X : Cx) (W : WX) (e : Option Expr) (m : OM) : Prop := PO X e (liftO X.K W m)
def JS (X : Cx) (W : WX) (st : Stmt) (m : SM) : Prop := PS X st (liftS X.K W m)
def JSs (X : Cx) (W : WX) (st : List Stmt) (m : SM) : Prop := PSs X st (liftS X.K W m)
def JG (X : Cx) (W : WX) (e : Expr) (m : GM) : Prop := PG X e (liftG X.K W m)
def JGs (X : Cx) (W : WX) (e : List Expr) (m : GMs) : Prop := PGs X e (liftGs X.K W m)
def JI (X : Cx) (W : WX) (tg e : Expr) (m : IM) : Prop := PI X tg e (liftI X.K W m)

section
variable {X : Cx} {W : WX}
theorem _root_.L2.PE.wk {e : Expr} {t t' : TE} (p : PE X e t) (h : ∀ σ H Q, t' σ H Q → t σ H Q) : PE X e t' := ⟨fun pins s σ H Q I w => p.run pins s σ H Q I (h σ H Q w)⟩
theorem _root_.L2.PT.wk {e : Expr} {t t' : TT} (p : PT X e t) (h : ∀ σ H Q, t' σ H Q → t σ H Q) : PT X e t' := ⟨fun pins s σ H Q I w => p.run pins s σ H Q I (h σ H Q w)⟩
theorem _root_.L2.PW.wk {e : Expr} {t t' : TT} (p : PW X e t) (h : ∀ σ H Q, t' σ H Q → t σ H Q) : PW X e t' := ⟨fun wh pins s σ H Q I w => p.run wh pins s σ H Q I (h σ H Q w)⟩
theorem _root_.L2.PA.wk {e : List Expr} {t t' : TA} (p : PA X e t) (h : ∀ σ H Q, t' σ H Q → t σ H Q) : PA X e t' := ⟨fun pos pins s σ H Q I w => p.run pos pins s σ H Q I (h σ H Q w)⟩
theorem _root_.L2.PO.wk {e : Option Expr} {t t' : TO} (p : PO X e t) (h : ∀ σ H Q, t' σ H Q → t σ H Q) : PO X e t' := ⟨fun pins s σ H Q I w => p.run pins s σ H Q I (h σ H Q w)⟩
theorem _root_.L2.PS.wk {e : Stmt} {t t' : TS} (p : PS X e t) (h : ∀ D σ H, t' D σ H → t D σ H) : PS X e t' := ⟨fun pins s σ H D I w => p.run pins s σ H D I (h D σ H w)⟩
theorem _root_.L2.PSs.wk {e : List Stmt} {t t' : TS} (p : PSs X e t) (h : ∀ D σ H, t' D σ H → t D σ H) : PSs X e t' := ⟨fun pins s σ H D I w => p.run pins s σ H D I (h D σ H w)⟩
theorem _root_.L2.PG.wk {e : Expr} {t t' : TG} (p : PG X e t) (h : ∀ v σ H Q, t' v σ H Q → t v σ H Q) : PG X e t' := ⟨fun pins s σ H v u Q I r w => p.run pins s σ H v u Q I r (h v σ H Q w)⟩
theorem _root_.L2.PGs.wk {e : List Expr} {t t' : TGs} (p : PGs X e t) (h : ∀ v σ H Q, t' v σ H Q → t v σ H Q) : PGs X e t' := ⟨fun pins s σ H v u Q I r w => p.run pins s σ H v u Q I r (h v σ H Q w)⟩
theorem _root_.L2.PI.wk {tg e : Expr} {t t' : TI} (p : PI X tg e t) (h : ∀ σ H Q, t' σ H Q → t σ H Q) : PI X tg e t' := ⟨fun pins s σ H Q I w => p.run pins s σ H Q I (h σ H Q w)⟩

def eVar (i : Nat) : EM := fun s h Q _ => match s[i]? with
  | some (some t) => Q t h
  | _ => False
def eC (t : T) : EM := fun _ h Q _ => Q t h
theorem j_var (i : Nat) {x : Str} {pos : Pos} (hN : X.N[i]? = some x := by rfl) (hv : Vis X.env.scope x := by first | exact Or.inl rfl | exact Or.inr (Or.inl rfl) | exact Or.inr (Or.inr rfl)) (hd : (x == ("__debug__" : Str)) = false := by decide)
    (hcd : (x == ("__classdict__" : Str)) = false := by decide) : JE X W (.Name x pos) (eVar i) := (pe_var hN hv hd hcd).wk fun σ H Q' ⟨S, h, s, Q, E, m, rs, lk, hm, pk⟩ => by
  unfold eVar at hm
  split at hm
  · rename_i t e
    obtain ⟨v, e1, r⟩ := rs.at_ i t e
    exact ⟨v, e1, pk S H h v t Fut.refl m r hm⟩
  · exact hm.elim
theorem j_c {e : Expr} {v : V} {t : T} (p : PE X e (tC v)) (r : ∀ S H, Rep X.K S H v t) : JE X W e (eC t) := p.wk fun σ H Q' ⟨S, h, s, Q, E, m, rs, lk, hm, pk⟩ => pk S H h v t Fut.refl m (r S H) hm
theorem j_int {i j pos} : JE X W (.Constant (.int i) j pos) (eC (.int i)) := j_c pe_int fun _ _ => .int i
theorem j_bl {b j pos} : JE X W (.Constant (.bool b) j pos) (eC (.bl b)) := j_c pe_bl fun _ _ => .bl b
theorem j_non {j pos} : JE X W (.Constant .none j pos) (eC .non) := j_c pe_non fun _ _ => .non
theorem j_str {x j pos} : JE X W (.Constant (.str x) j pos) (eC (.str x)) := j_c pe_str fun _ _ => .str x
theorem j_globI {x : Str} {i : Int} {t : Tok} {pos : Pos} (hg : Gl X x) (hm : X.mg x = some (.int i t)) (hd : (x == ("__debug__" : Str)) = false := by decide) : JE X W (.Name x pos) (eC (.int i)) := j_c (v := .int i) (pe_glob hg hm ⟨t, rfl⟩ hd) fun _ _ => .int i
theorem j_globR {x : Str} {a : Addr} {pos : Pos} (hg : Gl X x) (hm : X.mg x = some (.ref a)) (hd : (x == ("__debug__" : Str)) = false := by decide) : JE X W (.Name x pos) (eC (.ref a)) := j_c (v := .ref a) (pe_glob hg hm rfl hd) fun _ _ => .ref a
theorem j_globS {x : Str} {z : Str} {t : Tok} {pos : Pos} (hg : Gl X x) (hm : X.mg x = some (.str z t)) (hd : (x == ("__debug__" : Str)) = false := by decide) : JE X W (.Name x pos) (eC (.str z)) := j_c (v := .str z) (pe_glob hg hm ⟨t, rfl⟩ hd) fun _ _ => .str z
theorem j_ty {x : Str} {n : String} {pos : Pos} (hg : Gl X x) (hm : X.mg x = none) (hv : bootBuiltins x = some (.type n)) (hn : x ≠ "__name__" := by decide) (hd : (x == ("__debug__" : Str)) = false := by decide) : JE X W (.Name x pos) (eC (.ty n)) := j_c (v := .ty n) (pe_bltn hg hm hv rfl hn hd) fun _ _ => .ty n

abbrev R2T := T → T → Hq → TK → Prop
def OP (K : PySem.W.Frag) (r : R2) (o : R2T) : Prop := ∀ S H h v w x y Q Q', Sim K S H h → Rep K S H v x → Rep K S H w y → o x y h Q → PK K S H Q Q' → r v w H Q'
def eOp (o : R2T) (a b : EM) : EM := fun s h Q E => a s h (fun x h1 => b s h1 (fun y h2 => o x y h2 Q) E) E
theorem lift_op {K : PySem.W.Frag} {r : R2} {o : R2T} {a b : EM} (op : OP K r o) : ∀ σ H Q, liftE K W (eOp o a b) σ H Q → tOp r (liftE K W a) (liftE K W b) σ H Q := fun σ H Q' ⟨S, h, s, Q, E, m, rs, lk, hm, pk⟩ =>
  ⟨S, h, s, _, E, m, rs, lk, hm, fun S1 H1 h1 v x f1 m1 r1 q1 => ⟨S1, h1, s, _, E, m1, rs.fut f1, lk.fut f1, q1, fun S2 H2 h2 w y f2 m2 r2 q2 => op S2 H2 h2 v w x y Q Q' m2 (r1.fut f2) r2 q2 (pk.fut (f1.trans f2))⟩⟩
theorem j_op {a b : Expr} {ma mb : EM} {op : Operator} {r : R2} {o : R2T} {pos : Pos} (ho : OpR X (binaryOp op) r) (p : OP X.K r o) (ha : JE X W a ma) (hb : JE X W b mb) : JE X W (.BinOp a op b pos) (eOp o ma mb) := PE.wk (pe_op ho ha hb) (lift_op p)
theorem j_cmp {a b : Expr} {ma mb : EM} {op : CmpOp} {r : R2} {o : R2T} {pos : Pos} (ho : OpR X (compareOp op) r) (p : OP X.K r o) (ha : JE X W a ma) (hb : JE X W b mb) (hm : behindInMarks op b = false) : JE X W (.Compare a [op] [b] pos) (eOp o ma mb) := PE.wk (pe_cmpR ho ha hb hm) (lift_op p)
def tOf (m : EM) : TM := fun s h Q E => m s h (fun x h1 => match x with
  | .bl b => Q b h1
  | _ => False) E
theorem lift_test {K : PySem.W.Frag} {m : EM} : ∀ σ H Q, liftT K W (tOf m) σ H Q → tTest (liftE K W m) σ H Q := fun σ H Q' ⟨S, h, s, Q, E, m, rs, lk, hm, pk⟩ =>
  ⟨S, h, s, _, E, m, rs, lk, hm, fun S1 H1 h1 v x f1 m1 r1 q1 => by
    split at q1
    · cases r1; exact ⟨_, rfl, pk S1 H1 h1 _ f1 m1 q1⟩
    · exact q1.elim⟩
theorem tTest_mono {t t' : TE} (h : ∀ σ H Q, t' σ H Q → t σ H Q) : ∀ σ H Q, tTest t' σ H Q → tTest t σ H Q := fun σ H _ q => h σ H _ q
theorem jt_cmp {a b : Expr} {ma mb : EM} {op : CmpOp} {r : R2} {o : R2T} {pos : Pos} (ho : OpR X (compareOp op) r) (p : OP X.K r o) (ha : JE X W a ma) (hb : JE X W b mb) (hm : behindInMarks op b = false) : JT X W (.Compare a [op] [b] pos) (tOf (eOp o ma mb)) :=
  PT.wk (pt_cmpR ho ha hb hm) fun σ H Q q => tTest_mono (lift_op p) σ H Q (lift_test σ H Q q)
def eChain (o o' : R2T) (a b c : EM) : EM := fun s h Q E => a s h (fun x h1 => b s h1 (fun y h2 => o x y h2 fun z h3 => match z with
  | .bl true => c s h3 (fun w h4 => o' y w h4 Q) E
  | .bl false => Q (.bl false) h3
  | _ => False) E) E
theorem lift_chain {K : PySem.W.Frag} {r r' : R2} {o o' : R2T} {a b c : EM} (op : OP K r o) (op' : OP K r' o') : ∀ σ H Q, liftE K W (eChain o o' a b c) σ H Q → tChain r r' (liftE K W a) (liftE K W b) (liftE K W c) σ H Q := fun σ H Q' ⟨S, h, s, Q, E, m, rs, lk, hm, pk⟩ =>
  ⟨S, h, s, _, E, m, rs, lk, hm, fun S1 H1 h1 v x f1 m1 r1 q1 => ⟨S1, h1, s, _, E, m1, rs.fut f1, lk.fut f1, q1, fun S2 H2 h2 w y f2 m2 r2 q2 =>
    op S2 H2 h2 v w x y _ _ m2 (r1.fut f2) r2 q2 fun S3 H3 h3 z' z f3 m3 r3 q3 => by
      split at q3
      · cases r3
        refine ⟨true, rfl, ?_⟩
        rw [if_pos rfl]
        exact ⟨S3, h3, s, _, E, m3, rs.fut ((f1.trans f2).trans f3), lk.fut ((f1.trans f2).trans f3), q3, fun S4 H4 h4 w' u f4 m4 r4 q4 => op' S4 H4 h4 w w' y u Q Q' m4 (r2.fut (f3.trans f4)) r4 q4 (pk.fut (((f1.trans f2).trans f3).trans f4))⟩
      · cases r3
        refine ⟨false, rfl, ?_⟩
        rw [if_neg Bool.false_ne_true]
        exact pk S3 H3 h3 _ _ ((f1.trans f2).trans f3) m3 (.bl false) q3
      · exact q3.elim⟩⟩
theorem j_chain {a b c : Expr} {ma mb mc : EM} {op op' : CmpOp} {r r' : R2} {o o' : R2T} {pos : Pos} (ho : OpR X (compareOp op) r) (p : OP X.K r o) (ho' : OpR X (compareOp op') r') (p' : OP X.K r' o') (ha : JE X W a ma) (hb : JE X W b mb) (hc : JE X W c mc) (hl : lastMarks [op, op'] [b, c] = false := by rfl) :
    JE X W (.Compare a [op, op'] [b, c] pos) (eChain o o' ma mb mc) := PE.wk (pe_chain ho ho' ha hb hc hl) (lift_chain p p')
theorem jt_chain {a b c : Expr} {ma mb mc : EM} {op op' : CmpOp} {r r' : R2} {o o' : R2T} {pos : Pos} (ho : OpR X (compareOp op) r) (p : OP X.K r o) (ho' : OpR X (compareOp op') r') (p' : OP X.K r' o') (ha : JE X W a ma) (hb : JE X W b mb) (hc : JE X W c mc) (hl : lastMarks [op, op'] [b, c] = false := by rfl) :
    JT X W (.Compare a [op, op'] [b, c] pos) (tOf (eChain o o' ma mb mc)) := PT.wk (pt_chain ho ho' ha hb hc hl) fun σ H Q q => tTest_mono (lift_chain p p') σ H Q (lift_test σ H Q q)

def tAndM (a b : TM) : TM := fun s h Q E => a s h (fun c h1 => if c = true then b s h1 Q E else Q false h1) E
def tOrM (a b : TM) : TM := fun s h Q E => a s h (fun c h1 => if c = true then Q true h1 else b s h1 Q E) E
def tNotM (a : TM) : TM := fun s h Q E => a s h (fun c h1 => Q (!c) h1) E
theorem jw_and1 {a : Expr} {m : TM} {pos : Pos} (h : JT X W a m) : JW X W (.BoolOp .And [a] pos) m := pw_and1 h
theorem jw_or1 {a : Expr} {m : TM} {pos : Pos} (h : JT X W a m) : JW X W (.BoolOp .Or [a] pos) m := pw_or1 h
theorem jw_and {a b : Expr} {rest : List Expr} {ma mb : TM} {pos : Pos} (ha : JT X W a ma) (hb : JW X W (.BoolOp .And (b :: rest) pos) mb) : JW X W (.BoolOp .And (a :: b :: rest) pos) (tAndM ma mb) := PW.wk (pw_and ha hb) fun σ H Q' ⟨S, h, s, Q, E, m, rs, lk, hm, pk⟩ =>
  ⟨S, h, s, _, E, m, rs, lk, hm, fun S1 H1 h1 c f1 m1 q1 => by
    cases c with
    | true => rw [if_pos rfl] at q1 ⊢; exact ⟨S1, h1, s, Q, E, m1, rs.fut f1, lk.fut f1, q1, pk.fut f1⟩
    | false => rw [if_neg Bool.false_ne_true] at q1 ⊢; exact pk S1 H1 h1 _ f1 m1 q1⟩
theorem jw_or {a b : Expr} {rest : List Expr} {ma mb : TM} {pos : Pos} (ha : JT X W a ma) (hb : JW X W (.BoolOp .Or (b :: rest) pos) mb) : JW X W (.BoolOp .Or (a :: b :: rest) pos) (tOrM ma mb) := PW.wk (pw_or ha hb) fun σ H Q' ⟨S, h, s, Q, E, m, rs, lk, hm, pk⟩ =>
  ⟨S, h, s, _, E, m, rs, lk, hm, fun S1 H1 h1 c f1 m1 q1 => by
    cases c with
    | false => rw [if_neg Bool.false_ne_true] at q1 ⊢; exact ⟨S1, h1, s, Q, E, m1, rs.fut f1, lk.fut f1, q1, pk.fut f1⟩
    | true => rw [if_pos rfl] at q1 ⊢; exact pk S1 H1 h1 _ f1 m1 q1⟩
theorem jt_w {e : Expr} {m : TM} (h : JW X W e m) : JT X W e m := PW.pt h
theorem jt_not {a : Expr} {m : TM} {pos : Pos} (h : JT X W a m) : JT X W (.UnaryOp .Not a pos) (tNotM m) := PT.wk (pt_not h) fun σ H Q' ⟨S, h, s, Q, E, m, rs, lk, hm, pk⟩ =>
  ⟨S, h, s, _, E, m, rs, lk, hm, fun S1 H1 h1 c f1 m1 q1 => pk S1 H1 h1 _ f1 m1 q1⟩
def eAndV (a b : EM) : EM := fun s h Q E => a s h (fun x h1 => match x with
  | .bl true => b s h1 Q E
  | .bl false => Q (.bl false) h1
  | _ => False) E
def eOrV (a b : EM) : EM := fun s h Q E => a s h (fun x h1 => match x with
  | .bl true => Q (.bl true) h1
  | .bl false => b s h1 Q E
  | _ => False) E
def eNotV (a : EM) : EM := fun s h Q E => a s h (fun x h1 => match x with
  | .bl c => Q (.bl (!c)) h1
  | _ => False) E
theorem j_one {op : BoolOp} {a : Expr} {m : EM} {pos : Pos} (h : JE X W a m) : JE X W (.BoolOp op [a] pos) m := pe_one h
theorem j_and {a b : Expr} {rest : List Expr} {ma mb : EM} {pos : Pos} (ha : JE X W a ma) (hb : JE X W (.BoolOp .And (b :: rest) pos) mb) : JE X W (.BoolOp .And (a :: b :: rest) pos) (eAndV ma mb) := PE.wk (pe_and ha hb) fun σ H Q' ⟨S, h, s, Q, E, m, rs, lk, hm, pk⟩ =>
  ⟨S, h, s, _, E, m, rs, lk, hm, fun S1 H1 h1 v x f1 m1 r1 q1 => by
    split at q1
    · cases r1; refine ⟨true, rfl, ?_⟩; rw [if_pos rfl]; exact ⟨S1, h1, s, Q, E, m1, rs.fut f1, lk.fut f1, q1, pk.fut f1⟩
    · cases r1; refine ⟨false, rfl, ?_⟩; rw [if_neg Bool.false_ne_true]; exact pk S1 H1 h1 _ _ f1 m1 (.bl false) q1
    · exact q1.elim⟩
theorem j_or {a b : Expr} {rest : List Expr} {ma mb : EM} {pos : Pos} (ha : JE X W a ma) (hb : JE X W (.BoolOp .Or (b :: rest) pos) mb) : JE X W (.BoolOp .Or (a :: b :: rest) pos) (eOrV ma mb) := PE.wk (pe_or ha hb) fun σ H Q' ⟨S, h, s, Q, E, m, rs, lk, hm, pk⟩ =>
  ⟨S, h, s, _, E, m, rs, lk, hm, fun S1 H1 h1 v x f1 m1 r1 q1 => by
    split at q1
    · cases r1; refine ⟨true, rfl, ?_⟩; rw [if_pos rfl]; exact pk S1 H1 h1 _ _ f1 m1 (.bl true) q1
    · cases r1; refine ⟨false, rfl, ?_⟩; rw [if_neg Bool.false_ne_true]; exact ⟨S1, h1, s, Q, E, m1, rs.fut f1, lk.fut f1, q1, pk.fut f1⟩
    · exact q1.elim⟩
theorem j_not {a : Expr} {ma : EM} {pos : Pos} (ha : JE X W a ma) : JE X W (.UnaryOp .Not a pos) (eNotV ma) := PE.wk (pe_not ha) fun σ H Q' ⟨S, h, s, Q, E, m, rs, lk, hm, pk⟩ =>
  ⟨S, h, s, _, E, m, rs, lk, hm, fun S1 H1 h1 v x f1 m1 r1 q1 => by
    split at q1
    · cases r1; exact ⟨_, rfl, pk S1 H1 h1 _ _ f1 m1 (.bl _) q1⟩
    · exact q1.elim⟩
def eIf (c : TM) (a b : EM) : EM := fun s h Q E => c s h (fun d h1 => if d = true then a s h1 Q E else b s h1 Q E) E
theorem j_if {c a b : Expr} {mc : TM} {ma mb : EM} {pos : Pos} (hc : JT X W c mc) (ha : JE X W a ma) (hb : JE X W b mb) : JE X W (.IfExp c a b pos) (eIf mc ma mb) := PE.wk (pe_ifExp hc ha hb) fun σ H Q' ⟨S, h, s, Q, E, m, rs, lk, hm, pk⟩ =>
  ⟨S, h, s, _, E, m, rs, lk, hm, fun S1 H1 h1 c f1 m1 q1 => by
    cases c with
    | true => rw [if_pos rfl] at q1 ⊢; exact ⟨S1, h1, s, Q, E, m1, rs.fut f1, lk.fut f1, q1, pk.fut f1⟩
    | false => rw [if_neg Bool.false_ne_true] at q1 ⊢; exact ⟨S1, h1, s, Q, E, m1, rs.fut f1, lk.fut f1, q1, pk.fut f1⟩⟩

def aNil : AM := fun _ h Q _ => Q [] h
def aCons (a : EM) (r : AM) : AM := fun s h Q E => a s h (fun x h1 => r s h1 (fun xs h2 => Q (x :: xs) h2) E) E
theorem ja_nil : JA X W [] aNil := PA.wk pa_nil fun σ H Q' ⟨S, h, s, Q, E, m, rs, lk, hm, pk⟩ => pk S H h _ _ Fut.refl m .nil hm
end
end TL

namespace TL
open PySem L2
section
variable {X : Cx} {W : WX} {K : PySem.W.Frag} {S : Fz} {H : Hp} {h : Hq}
theorem ja_cons {e : Expr} {es : List Expr} {m : EM} {r : AM} (he : JE X W e m) (hr : JA X W es r) (hs : starEach (e :: es) X.env = (false, eval e X.env) :: starEach es X.env := by rfl) : JA X W (e :: es) (aCons m r) := PA.wk (pa_cons he hr hs) fun σ H Q' ⟨S, h, s, Q, E, m, rs, lk, hm, pk⟩ =>
  ⟨S, h, s, _, E, m, rs, lk, hm, fun S1 H1 h1 v x f1 m1 r1 q1 => ⟨S1, h1, s, _, E, m1, rs.fut f1, lk.fut f1, q1, fun S2 H2 h2 vs xs f2 m2 r2 q2 => pk S2 H2 h2 _ _ (f1.trans f2) m2 (.cons (r1.fut f2) r2) q2⟩⟩

def lsOf (h : Hq) : T → Option (List T)
  | .lst ts => some ts
  | .ref a => match h a with
    | some (.lst ts) => some ts
    | _ => none
  | _ => none
theorem lsOf_ok (m : Sim K S H h) {v : V} {x : T} {ts : List T} (r : Rep K S H v x) (e : lsOf h x = some ts) : ∃ a vs, v = .ref a ∧ H a = some (.lst vs) ∧ RepL K S H vs ts := by
  cases r with
  | lst s hh q => cases e; exact ⟨_, _, rfl, hh, q⟩
  | ref a =>
    simp only [lsOf] at e
    cases z : h a with
    | none => rw [z] at e; cases e
    | some o =>
      rw [z] at e
      cases o with
      | lst ts' =>
        cases e
        obtain ⟨u, e1, vs, e2, r2⟩ := m.ob a _ z
        subst e2
        exact ⟨a, vs, rfl, e1, r2⟩
      | ins C fs => cases e
      | pool => cases e
      | dK _ => cases e
      | dT _ => cases e
      | tab _ => cases e
      | dL _ _ => cases e
  | non => cases e
  | bl b => cases e
  | int i => cases e
  | str x => cases e
  | tup _ _ _ => cases e
  | tupK _ _ => cases e
  | ins _ _ _ => cases e
  | ty n => cases e
  | scr _ _ => cases e
  | scrK _ => cases e
  | exc _ _ _ => cases e
  | exc0 => cases e
  | xob _ _ _ _ _ _ => cases e
def mk (fl : Bool) (ts : List T) (h : Hq) (Q : TK) : Prop := if fl = true then Q (.lst ts) h else ∀ p, h p = none → Q (.ref p) (put h p (.lst ts))
@[simp] theorem mk_true {ts : List T} {h : Hq} {Q : TK} : mk true ts h Q = Q (.lst ts) h := by unfold mk; rw [if_pos rfl]
@[simp] theorem mk_false {ts : List T} {h : Hq} {Q : TK} : mk false ts h Q = ∀ p, h p = none → Q (.ref p) (put h p (.lst ts)) := by unfold mk; rw [if_neg Bool.false_ne_true]
theorem mk_ok (m : Sim K S H h) {fl : Bool} {vs : List V} {ts : List T} {Q : TK} {Q' : VK} (r : RepL K S H vs ts) (q : mk fl ts h Q) (pk : PK K S H Q Q') : ∀ p, H p = none → Q' (.ref p) (upd H p (.lst vs)) := fun p hp => by
  cases fl with
  | true =>
    rw [mk_true] at q
    obtain ⟨m1, f1⟩ := m.frozen (u := .lst vs) hp
    exact pk _ _ h _ _ f1 m1 (.lst (.inr rfl) upd_same (r.fut f1)) q
  | false =>
    rw [mk_false] at q
    exact pk S _ _ _ _ (fut_upd (m.nS hp)) (m.new (o := .lst ts) hp ⟨vs, rfl, r⟩) (.ref p) (q p (m.free hp))
theorem tup_ok (m : Sim K S H h) {vs : List V} {ts : List T} {Q : TK} {Q' : VK} (r : RepL K S H vs ts) (q : Q (.tup ts) h) (pk : PK K S H Q Q') : ∀ p, H p = none → Q' (.ref p) (upd H p (.tup vs)) := fun p hp => by
  obtain ⟨m1, f1⟩ := m.frozen (u := .tup vs) hp
  exact pk _ _ h _ _ f1 m1 (.tup (.inr rfl) upd_same (r.fut f1)) q
abbrev lim : Nat := 1000000
theorem lim_le {n : Nat} (h : n ≤ lim) : n ≤ sizeLine := Nat.le_trans h (by decide)
theorem lim_lt {n : Nat} (h : n ≤ lim) : n < sizeLine := Nat.lt_of_le_of_lt h (by decide)
def eTup (a : AM) : EM := fun s h Q E => a s h (fun ts h1 => ts.length ≤ lim ∧ Q (.tup ts) h1) E
def eLst (fl : Bool) (a : AM) : EM := fun s h Q E => a s h (fun ts h1 => ts.length ≤ lim ∧ mk fl ts h1 Q) E
theorem j_tup {es : List Expr} {a : AM} {x1} {pos : Pos} (ha : JA X W es a) : JE X W (.Tuple es x1 pos) (eTup a) := PE.wk (pe_tup ha) fun σ H Q' ⟨S, h, s, Q, E, m, rs, lk, hm, pk⟩ =>
  ⟨S, h, s, _, E, m, rs, lk, hm, fun S1 H1 h1 vs ts f1 m1 r1 ⟨l, q1⟩ => ⟨lim_le (by rw [r1.length]; exact l), tup_ok m1 r1 q1 (pk.fut f1)⟩⟩
theorem j_lst (fl : Bool) {es : List Expr} {a : AM} {pos : Pos} (ha : JA X W es a) : JE X W (.List es pos) (eLst fl a) := PE.wk (pe_lst ha) fun σ H Q' ⟨S, h, s, Q, E, m, rs, lk, hm, pk⟩ =>
  ⟨S, h, s, _, E, m, rs, lk, hm, fun S1 H1 h1 vs ts f1 m1 r1 ⟨l, q1⟩ => ⟨lim_le (by rw [r1.length]; exact l), mk_ok m1 r1 q1 (pk.fut f1)⟩⟩
def frzK (Q : TK) : TK := fun x h1 => match x with
  | .ref p => match h1 p with
    | some (.lst ts) => Q (.lst ts) (del h1 p)
    | some (.ins C gs) => Q (.ins C gs) (del h1 p)
    | _ => Q (.ref p) h1
  | x => Q x h1
def eFrz (a : EM) : EM := fun s h Q E => a s h (frzK Q) E
theorem frz_ok (m : Sim K S H h) {v : V} {x : T} {Q : TK} {Q' : VK} (r : Rep K S H v x) (pk : PK K S H Q Q') (q : frzK Q x h) : Q' v H := by
  unfold frzK at q
  cases r with
  | ref p =>
    dsimp only at q
    split at q
    · rename_i ts e
      obtain ⟨u, e1, vs, e2, r2⟩ := m.ob p _ e
      subst e2
      have f : Fut S H (plus S p) H := fut_plus Fut.refl
      exact pk _ H _ _ _ f (m.freeze e) (.lst (.inr rfl) e1 (r2.fut f)) q
    · rename_i C gs e
      obtain ⟨u, e1, dx, fs, e2, r2⟩ := m.ob p _ e
      subst e2
      have f : Fut S H (plus S p) H := fut_plus Fut.refl
      exact pk _ H _ _ _ f (m.freeze e) (.ins (.inr rfl) e1 (r2.fut f)) q
    · exact pk S H h _ _ Fut.refl m (.ref p) q
  | non => exact pk S H h _ _ Fut.refl m .non q
  | bl b => exact pk S H h _ _ Fut.refl m (.bl b) q
  | int i => exact pk S H h _ _ Fut.refl m (.int i) q
  | str x => exact pk S H h _ _ Fut.refl m (.str x) q
  | tup a b c => exact pk S H h _ _ Fut.refl m (.tup a b c) q
  | tupK a b => exact pk S H h _ _ Fut.refl m (.tupK a b) q
  | lst a b c => exact pk S H h _ _ Fut.refl m (.lst a b c) q
  | ins a b c => exact pk S H h _ _ Fut.refl m (.ins a b c) q
  | ty n => exact pk S H h _ _ Fut.refl m (.ty n) q
  | scr a b => exact pk S H h _ _ Fut.refl m (.scr a b) q
  | scrK b => exact pk S H h _ _ Fut.refl m (.scrK b) q
  | exc a b c => exact pk S H h _ _ Fut.refl m (.exc a b c) q
  | exc0 => exact pk S H h _ _ Fut.refl m .exc0 q
  | xob a b c d e f => exact pk S H h _ _ Fut.refl m (.xob a b c d e f) q
theorem j_frz {e : Expr} {a : EM} (he : JE X W e a) : JE X W e (eFrz a) := PE.wk he fun σ H Q' ⟨S, h, s, Q, E, m, rs, lk, hm, pk⟩ =>
  ⟨S, h, s, _, E, m, rs, lk, hm, fun S1 H1 h1 v x f1 m1 r1 q1 => frz_ok m1 r1 (pk.fut f1) q1⟩

def MulOk (i j : Int) : Prop := i.natAbs < 2 ^ 64 ∨ j.natAbs < 2 ^ 64 ∨ (i.natAbs < 2 ^ 250 ∧ j.natAbs < 2 ^ 250)
def oI (g : Int → Int → T) : R2T := fun x y h Q => match x, y with
  | .int i, .int j => Q (g i j) h
  | _, _ => False
theorem op_I {g : Int → Int → V} {g' : Int → Int → T} (e : ∀ S H i j, Rep K S H (g i j) (g' i j)) : OP K (rI0 g) (oI g') := fun S H h v w x y Q Q' m r1 r2 q pk => by
  cases r1 <;> cases r2 <;> first | exact q.elim | skip
  exact ⟨_, _, rfl, rfl, pk S H h _ _ Fut.refl m (e S H _ _) q⟩
def oIC (C : Int → Int → Prop) (g : Int → Int → T) : R2T := fun x y h Q => match x, y with
  | .int i, .int j => C i j ∧ Q (g i j) h
  | _, _ => False
theorem op_IC {C C' : Int → Int → Prop} {g : Int → Int → V} {g' : Int → Int → T} (c : ∀ i j, C' i j → C i j) (e : ∀ S H i j, Rep K S H (g i j) (g' i j)) : OP K (rI C g) (oIC C' g') := fun S H h v w x y Q Q' m r1 r2 q pk => by
  cases r1 <;> cases r2 <;> first | exact q.elim | skip
  exact ⟨_, _, rfl, rfl, c _ _ q.1, pk S H h _ _ Fut.refl m (e S H _ _) q.2⟩
theorem OP.or {r r' : R2} {o o' u : R2T} (a : OP K r o) (b : OP K r' o') (c : ∀ x y h Q, u x y h Q → o x y h Q ∨ o' x y h Q) : OP K (fun x y H Q => r x y H Q ∨ r' x y H Q) u := fun S H h v w x y Q Q' m r1 r2 q pk => by
  rcases c x y h Q q with q | q
  · exact .inl (a S H h v w x y Q Q' m r1 r2 q pk)
  · exact .inr (b S H h v w x y Q Q' m r1 r2 q pk)

def oSub : R2T := oI fun i j => .int (i - j)
def oMod : R2T := oIC (fun _ j => 0 < j) fun i j => .int (i % j)
def oDiv : R2T := oIC (fun _ j => 0 < j ∧ j < 2 ^ 250) fun i j => .int (i / j)
def oPow : R2T := oIC (fun i j => 0 ≤ j ∧ j ≤ 1000 ∧ i.natAbs < 2 ^ 64) fun i j => .int (i ^ j.toNat)
def oLt : R2T := oI fun i j => .bl (decide (i < j))
def oLe : R2T := oI fun i j => .bl (decide (i ≤ j))
def oGt : R2T := oI fun i j => .bl (decide (j < i))
def oGe : R2T := oI fun i j => .bl (decide (j ≤ i))
theorem p_sub : OP K (rI0 fun i j => .int (i - j)) oSub := op_I fun _ _ _ _ => .int _
theorem p_mod : OP K (rI (fun _ j => 0 < j) fun i j => .int (i % j)) oMod := op_IC (fun _ _ c => c) fun _ _ _ _ => .int _
theorem p_div : OP K (rI CDivW fun i j => .int (i / j)) oDiv := op_IC (fun i j c => wide_div (b := 250) c.1 (by have := c.1; have := c.2; omega) (by decide) (by decide)) fun _ _ _ _ => .int _
theorem p_pow : OP K (rI CPow fun i j => .int (i ^ j.toNat)) oPow := op_IC (fun i j c => ⟨c.1, by have := c.2.1; omega, c.2.2⟩) fun _ _ _ _ => .int _
theorem p_lt : OP K (rI0 fun i j => .bl (decide (i < j))) oLt := op_I fun _ _ _ _ => .bl _
theorem p_le : OP K (rI0 fun i j => .bl (decide (i ≤ j))) oLe := op_I fun _ _ _ _ => .bl _
theorem p_gt : OP K (rI0 fun i j => .bl (decide (j < i))) oGt := op_I fun _ _ _ _ => .bl _
theorem p_ge : OP K (rI0 fun i j => .bl (decide (j ≤ i))) oGe := op_I fun _ _ _ _ => .bl _
def oAdd (fl : Bool) : R2T := fun x y h Q => match x, y with
  | .int i, .int j => Q (.int (i + j)) h
  | .str a, .str b => a.length + b.length ≤ lim ∧ Q (.str (a ++ b)) h
  | x, y => match lsOf h x, lsOf h y with
    | some xs, some ys => xs.length + ys.length ≤ lim ∧ mk fl (xs ++ ys) h Q
    | _, _ => False
def rAdd : R2 := fun x y H Q => (∃ i j, x = .int i ∧ y = .int j ∧ Q (.int (i + j)) H) ∨ (∃ i j, x = .str i ∧ y = .str j ∧ i.length + j.length ≤ sizeLine ∧ Q (.str (i ++ j)) H) ∨ rCat x y H Q
theorem o_add : OpR X (binaryOp .Add) rAdd := OpR.or op_add (OpR.or op_add_str op_cat)
theorem p_add (fl : Bool) : OP K rAdd (oAdd fl) := fun S H h v w x y Q Q' m r1 r2 q pk => by
  unfold oAdd at q
  split at q
  · cases r1; cases r2; exact .inl ⟨_, _, rfl, rfl, pk S H h _ _ Fut.refl m (.int _) q⟩
  · cases r1; cases r2; exact .inr (.inl ⟨_, _, rfl, rfl, lim_le q.1, pk S H h _ _ Fut.refl m (.str _) q.2⟩)
  · split at q
    · rename_i xs ys e1 e2
      obtain ⟨a, vs, rfl, ha, ra⟩ := lsOf_ok m r1 e1
      obtain ⟨b, ws, rfl, hb, rb⟩ := lsOf_ok m r2 e2
      exact .inr (.inr ⟨a, b, vs, ws, rfl, rfl, ha, hb, lim_le (by rw [ra.length, rb.length]; exact q.1), mk_ok m (ra.append rb) q.2 pk⟩)
    · exact q.elim
def oMul (fl : Bool) : R2T := fun x y h Q => match x, y with
  | .int i, .int j => MulOk i j ∧ Q (.int (i * j)) h
  | x, .int k => match lsOf h x with
    | some xs => 0 ≤ k ∧ k ≤ 1000000 ∧ xs.length * k.toNat ≤ lim ∧ mk fl (List.replicate k.toNat xs).flatten h Q
    | none => False
  | _, _ => False
def rMulA : R2 := fun x y H Q => rI CMul (fun i j => .int (i * j)) x y H Q ∨ rI CMulW (fun i j => .int (i * j)) x y H Q ∨ rRep x y H Q
theorem o_mul : OpR X (binaryOp .Mult) rMulA := OpR.or op_mul (OpR.or op_mulW op_rep)
theorem p_mul (fl : Bool) : OP K rMulA (oMul fl) := fun S H h v w x y Q Q' m r1 r2 q pk => by
  unfold oMul at q
  split at q
  · cases r1; cases r2
    rename_i i j
    have fin := pk S H h _ _ Fut.refl m (.int (i * j)) q.2
    rcases q.1 with c | c | ⟨c, d⟩
    · exact .inl ⟨_, _, rfl, rfl, .inl (by omega), fin⟩
    · exact .inl ⟨_, _, rfl, rfl, .inr (by omega), fin⟩
    · exact .inr (.inl ⟨_, _, rfl, rfl, wide_mul (a := 250) (b := 250) c d (by decide) (by decide) (by decide), fin⟩)
  · split at q
    · rename_i xs e1
      obtain ⟨a, vs, rfl, ha, ra⟩ := lsOf_ok m r1 e1
      obtain ⟨k0, k1, k2, q⟩ := q
      cases r2
      exact .inr (.inr ⟨a, _, vs, rfl, rfl, ha, by omega, by omega, lim_le (by rw [ra.length]; exact k2), mk_ok m (ra.replicate _) q pk⟩)
    · exact q.elim
  · exact q.elim
def eNeg (a : EM) : EM := fun s h Q E => a s h (fun x h1 => match x with
  | .int i => Q (.int (-i)) h1
  | _ => False) E
theorem j_neg {a : Expr} {m : EM} {pos : Pos} (ha : JE X W a m) : JE X W (.UnaryOp .USub a pos) (eNeg m) := PE.wk (pe_un un_neg ha) fun σ H Q' ⟨S, h, s, Q, E, m, rs, lk, hm, pk⟩ =>
  ⟨S, h, s, _, E, m, rs, lk, hm, fun S1 H1 h1 v x f1 m1 r1 q1 => by
    split at q1
    · cases r1; exact ⟨_, rfl, pk S1 H1 h1 _ _ f1 m1 (.int _) q1⟩
    · exact q1.elim⟩
def oIsN : R2T := fun x y h Q => match y with
  | .non => match x with
    | .non => Q (.bl true) h
    | _ => Q (.bl false) h
  | _ => False
def oNotN : R2T := fun x y h Q => match y with
  | .non => match x with
    | .non => Q (.bl false) h
    | _ => Q (.bl true) h
  | _ => False
theorem p_isN : OP K (fun x y H Q => y = .non ∧ Q (.bl (decide (x = .non))) H) oIsN := fun S H h v w x y Q Q' m r1 r2 q pk => by
  cases r2 <;> first | exact q.elim | skip
  refine ⟨rfl, ?_⟩
  cases r1 <;> first
    | exact pk S H h _ _ Fut.refl m (.bl true) q
    | exact pk S H h _ _ Fut.refl m (.bl false) q
theorem p_notN : OP K (fun x y H Q => y = .non ∧ Q (.bl (!decide (x = .non))) H) oNotN := fun S H h v w x y Q Q' m r1 r2 q pk => by
  cases r2 <;> first | exact q.elim | skip
  refine ⟨rfl, ?_⟩
  cases r1 <;> first
    | exact pk S H h _ _ Fut.refl m (.bl false) q
    | exact pk S H h _ _ Fut.refl m (.bl true) q

mutual
def toD : T → Option PyData
  | .non => some .none
  | .bl b => some (.bool b)
  | .int i => some (.int i)
  | .str x => if PyData.strOk x = true then some (.str x) else none
  | .tup ts => (toDs ts).map .tuple
  | .lst ts => (toDs ts).map .list
  | _ => none
def toDs : List T → Option (List PyData)
  | [] => some []
  | t :: ts => match toD t, toDs ts with
    | some d, some ds => some (d :: ds)
    | _, _ => none
end
mutual
theorem toD_ok : ∀ {t : T} {v : V} {d : PyData}, Rep K S H v t → toD t = some d → Dp K H v d ∧ d.canLay0 = true
  | _, _, d, .non, e => by cases e; exact ⟨.non, rfl⟩
  | _, _, d, .bl b, e => by cases e; exact ⟨.bl b, rfl⟩
  | _, _, d, .int i, e => by cases e; exact ⟨.int i, rfl⟩
  | _, _, d, .str x, e => by
    unfold toD at e
    split at e
    · rename_i hs; cases e; exact ⟨.str x, by unfold PyData.canLay0; exact hs⟩
    · cases e
  | .tup ts, _, d, .tup s hh r, e => by
    unfold toD at e
    cases z : toDs ts with
    | none => rw [z] at e; cases e
    | some ds => rw [z] at e; cases e; exact ⟨.tup (SqT.of hh) (toDs_ok r z).1, by unfold PyData.canLay0; exact (toDs_ok r z).2⟩
  | .tup ts, _, d, .tupK hh r, e => by
    unfold toD at e
    cases z : toDs ts with
    | none => rw [z] at e; cases e
    | some ds => rw [z] at e; cases e; exact ⟨.tup (.inr hh) (toDs_ok r z).1, by unfold PyData.canLay0; exact (toDs_ok r z).2⟩
  | .lst ts, _, d, .lst s hh r, e => by
    unfold toD at e
    cases z : toDs ts with
    | none => rw [z] at e; cases e
    | some ds => rw [z] at e; cases e; exact ⟨.lst (SqL.of hh) (toDs_ok r z).1, by unfold PyData.canLay0; exact (toDs_ok r z).2⟩
  | _, _, d, .ins _ _ _, e => by cases e
  | _, _, d, .ref _, e => by cases e
  | _, _, d, .ty _, e => by cases e
  | _, _, d, .scr _ _, e => by cases e
  | _, _, d, .scrK _, e => by cases e
theorem toDs_ok : ∀ {ts : List T} {vs : List V} {ds : List PyData}, RepL K S H vs ts → toDs ts = some ds → DpAll K H vs ds ∧ PyData.canLayAll0 ds = true
  | _, _, ds, .nil, e => by cases e; exact ⟨.nil, rfl⟩
  | t :: ts, _, ds, .cons r q, e => by
    unfold toDs at e
    split at e
    · rename_i d ds' e1 e2
      cases e
      obtain ⟨a1, a2⟩ := toD_ok r e1
      obtain ⟨b1, b2⟩ := toDs_ok q e2
      exact ⟨.cons a1 b1, by unfold PyData.canLayAll0; rw [a2, b2]; rfl⟩
    · cases e
end
def view (h : Hq) : T → T
  | .ref a => match h a with
    | some (.lst ts) => .lst ts
    | _ => .ref a
  | x => x
def eqT (x y : T) : Bool := match toD x, toD y with
  | some d, some e => PyData.eqv d e
  | _, _ => false
def depth? (x : T) : Bool := match toD x with
  | some d => decide (d.depth ≤ 64)
  | none => false
theorem view_ok (m : Sim K S H h) {v : V} {x : T} {d : PyData} (r : Rep K S H v x) (e : toD (view h x) = some d) : Dp K H v d ∧ d.canLay0 = true := by
  cases r with
  | ref a =>
    simp only [view] at e
    cases z : h a with
    | none => rw [z] at e; cases e
    | some o =>
      rw [z] at e
      cases o with
      | lst ts =>
        obtain ⟨u, e1, vs, e2, r2⟩ := m.ob a _ z
        subst e2
        have f : Fut S H (plus S a) H := fut_plus Fut.refl
        exact toD_ok (S := plus S a) (.lst (.inr rfl) e1 (r2.fut f)) e
      | ins C fs => cases e
      | pool => cases e
      | dK _ => cases e
      | dT _ => cases e
      | tab _ => cases e
      | dL _ _ => cases e
  | non => exact toD_ok (S := S) .non e
  | bl b => exact toD_ok (S := S) (.bl b) e
  | int i => exact toD_ok (S := S) (.int i) e
  | str x => exact toD_ok (S := S) (.str x) e
  | tup a b c => exact toD_ok (.tup a b c) e
  | tupK a b => exact toD_ok (.tupK a b) e
  | lst a b c => exact toD_ok (.lst a b c) e
  | ins a b c => exact toD_ok (.ins a b c) e
  | ty n => exact toD_ok (S := S) (.ty n) e
  | scr a b => exact toD_ok (.scr a b) e
  | scrK b => exact toD_ok (S := S) (.scrK b) e
  | exc a b c => exact toD_ok (.exc a b c) e
  | exc0 => exact toD_ok (S := S) .exc0 e
  | xob a b c d f g => exact toD_ok (.xob a b c d f g) e
def oEq : R2T := fun x y h Q => depth? (view h x) = true ∧ depth? (view h y) = true ∧ Q (.bl (eqT (view h x) (view h y))) h
def oNe : R2T := fun x y h Q => depth? (view h x) = true ∧ depth? (view h y) = true ∧ Q (.bl (!eqT (view h x) (view h y))) h
theorem depth?_ok {x : T} (e : depth? x = true) : ∃ d, toD x = some d ∧ d.depth ≤ 64 := by
  unfold depth? at e
  split at e
  · exact ⟨_, by assumption, of_decide_eq_true e⟩
  · cases e
theorem p_eq : OP K (rEqD K) oEq := fun S H h v w x y Q Q' m r1 r2 q pk => by
  obtain ⟨q1, q2, q⟩ := q
  obtain ⟨d, e1, n1⟩ := depth?_ok q1
  obtain ⟨e, e2, n2⟩ := depth?_ok q2
  obtain ⟨a1, a2⟩ := view_ok m r1 e1
  obtain ⟨b1, b2⟩ := view_ok m r2 e2
  unfold eqT at q
  rw [e1, e2] at q
  exact ⟨d, e, a1, b1, by unfold SeqAt.shaped; rw [a2]; simpa using n1, by unfold SeqAt.shaped; rw [b2]; simpa using n2, pk S H h _ _ Fut.refl m (.bl _) q⟩
theorem p_ne : OP K (rNeD K) oNe := fun S H h v w x y Q Q' m r1 r2 q pk => by
  obtain ⟨q1, q2, q⟩ := q
  obtain ⟨d, e1, n1⟩ := depth?_ok q1
  obtain ⟨e, e2, n2⟩ := depth?_ok q2
  obtain ⟨a1, a2⟩ := view_ok m r1 e1
  obtain ⟨b1, b2⟩ := view_ok m r2 e2
  unfold eqT at q
  rw [e1, e2] at q
  exact ⟨d, e, a1, b1, by unfold SeqAt.shaped; rw [a2]; simpa using n1, by unfold SeqAt.shaped; rw [b2]; simpa using n2, pk S H h _ _ Fut.refl m (.bl _) q⟩
def inT (x : T) (ys : List T) : Bool := ys.any fun y => eqT y x
def oIn (neg : Bool) : R2T := fun x y h Q => match view h y with
  | .lst ys => depth? (view h x) = true ∧ depth? (.lst ys) = true ∧ Q (.bl (inT (view h x) ys != neg)) h
  | _ => False
theorem any_toD {x : T} {d : PyData} (e : toD x = some d) : ∀ {ys : List T} {ds : List PyData}, toDs ys = some ds → (ds.any fun z => PyData.eqv z d) = inT x ys
  | [], _, z => by cases z; rfl
  | y :: ys, _, z => by
    unfold toDs at z
    split at z
    · rename_i c cs e1 e2
      cases z
      show (PyData.eqv c d || cs.any fun z => PyData.eqv z d) = (eqT y x || inT x ys)
      rw [any_toD e e2]
      unfold eqT
      rw [e1, e]
    · cases z
theorem in_parts (m : Sim K S H h) {v w : V} {x y : T} {ys : List T} (r1 : Rep K S H v x) (r2 : Rep K S H w y) (ey : view h y = .lst ys) (q1 : depth? (view h x) = true) (q2 : depth? (.lst ys) = true) :
    ∃ d ds, Dp K H v d ∧ Dp K H w (.list ds) ∧ SeqAt.shaped d = true ∧ SeqAt.shaped (.list ds) = true ∧ (ds.any fun z => PyData.eqv z d) = inT (view h x) ys := by
  obtain ⟨d, e1, n1⟩ := depth?_ok q1
  obtain ⟨e, e2, n2⟩ := depth?_ok q2
  obtain ⟨a1, a2⟩ := view_ok m r1 e1
  have e2' := e2
  rw [← ey] at e2'
  obtain ⟨b1, b2⟩ := view_ok m r2 e2'
  cases z : toDs ys with
  | none => unfold toD at e2; rw [z] at e2; cases e2
  | some ds =>
    unfold toD at e2; rw [z] at e2; cases e2
    exact ⟨d, ds, a1, b1, by unfold SeqAt.shaped; rw [a2]; simpa using n1, by unfold SeqAt.shaped; rw [b2]; simpa using n2, any_toD e1 z⟩
theorem p_in : OP K (rInD K) (oIn false) := fun S H h v w x y Q Q' m r1 r2 q pk => by
  unfold oIn at q
  split at q
  · rename_i ys ey
    obtain ⟨q1, q2, q⟩ := q
    obtain ⟨d, ds, a, b, c1, c2, e⟩ := in_parts m r1 r2 ey q1 q2
    rw [← e] at q
    exact ⟨d, ds, a, b, c1, c2, pk S H h _ _ Fut.refl m (.bl _) (by simpa using q)⟩
  · exact q.elim
theorem p_notIn : OP K (rNotInD K) (oIn true) := fun S H h v w x y Q Q' m r1 r2 q pk => by
  unfold oIn at q
  split at q
  · rename_i ys ey
    obtain ⟨q1, q2, q⟩ := q
    obtain ⟨d, ds, a, b, c1, c2, e⟩ := in_parts m r1 r2 ey q1 q2
    rw [← e] at q
    exact ⟨d, ds, a, b, c1, c2, pk S H h _ _ Fut.refl m (.bl _) (by simpa using q)⟩
  · exact q.elim
end
end TL

namespace TL
open PySem L2
section
variable {X : Cx} {W : WX} {K : PySem.W.Frag} {S : Fz} {H : Hp} {h : Hq}
theorem atI_rep {vs : List V} {ts : List T} {i : Int} {t : T} (r : RepL K S H vs ts) (e : atI ts i = some t) : ∃ v, atI vs i = some v ∧ Rep K S H v t := by
  unfold atI at *
  rw [r.length]
  cases z : ixN ts.length i with
  | none => rw [z] at e; cases e
  | some j => rw [z] at e; exact r.get e
def atK (ts : List T) (i : Int) (h : Hq) (Q : TK) : Prop := match atI ts i with
  | some t => Q t h
  | none => False
def oIx : R2T := fun x y h Q => match y with
  | .int i => match x with
    | .tup ts => atK ts i h Q
    | .scr ns => atK (ns.map T.int) i h Q
    | .str z => z.length ≤ lim ∧ match atI z.cps.toList i with
      | some c => Q (.str ⟨#[c]⟩) h
      | none => False
    | x => match lsOf h x with
      | some ts => atK ts i h Q
      | none => False
  | _ => False
theorem atK_ok (m : Sim K S H h) {vs : List V} {ts : List T} {i : Int} {Q : TK} {Q' : VK} (r : RepL K S H vs ts) (q : atK ts i h Q) (pk : PK K S H Q Q') : ∃ v, atI vs i = some v ∧ Q' v H := by
  unfold atK at q
  split at q
  · rename_i t e
    obtain ⟨v, e1, r1⟩ := atI_rep r e
    exact ⟨v, e1, pk S H h _ _ Fut.refl m r1 q⟩
  · exact q.elim
theorem p_ix : OP K (rIx K) oIx := fun S H h v w x y Q Q' m r1 r2 q pk => by
  unfold oIx at q
  split at q
  · rename_i i
    cases r2
    split at q
    · rename_i ts
      cases r1 with
      | tup s hh r => obtain ⟨u, e, q'⟩ := atK_ok m r q pk; exact .inr (.inl ⟨_, _, i, u, rfl, rfl, SqT.of hh, e, q'⟩)
      | tupK hh r => obtain ⟨u, e, q'⟩ := atK_ok m r q pk; exact .inr (.inl ⟨_, _, i, u, rfl, rfl, .inr hh, e, q'⟩)
    · obtain ⟨a, rfl, hh, _⟩ := r1.scr_sq
      obtain ⟨u, e, q'⟩ := atK_ok m (RepL.of_ints _) q pk
      exact .inl ⟨_, _, i, u, rfl, rfl, hh, e, q'⟩
    · cases r1
      obtain ⟨l, q⟩ := q
      split at q
      · rename_i c e
        exact .inr (.inr ⟨_, i, c, rfl, rfl, lim_le l, e, pk S H h _ _ Fut.refl m (.str _) q⟩)
      · exact q.elim
    · split at q
      · rename_i ts e
        obtain ⟨a, vs, rfl, ha, r⟩ := lsOf_ok m r1 e
        obtain ⟨u, e, q'⟩ := atK_ok m r q pk
        exact .inl ⟨a, vs, i, u, rfl, rfl, SqL.of ha, e, q'⟩
      · exact q.elim
  · exact q.elim
theorem j_ix {a b : Expr} {ma mb : EM} {pos : Pos} (ha : JE X W a ma) (hb : JE X W b mb) (hs : PlainIx b := by intro _ _; rfl) : JE X W (.Subscript a b pos) (eOp oIx ma mb) := PE.wk (pe_ix ix_seq ha hb hs) (lift_op p_ix)
def mNo : OM := fun _ h Q _ => Q none h
def mPart (a : EM) : OM := fun s h Q E => a s h (fun x h1 => match x with
  | .int i => Q (some i) h1
  | _ => False) E
theorem jo_none : JO X W none mNo := PO.wk po_none fun σ H Q' ⟨S, h, s, Q, E, m, rs, lk, hm, pk⟩ => pk S H h _ Fut.refl m hm
theorem jo_some {e : Expr} {m : EM} (he : JE X W e m) : JO X W (some e) (mPart m) := PO.wk (po_some he) fun σ H Q' ⟨S, h, s, Q, E, m, rs, lk, hm, pk⟩ =>
  ⟨S, h, s, _, E, m, rs, lk, hm, fun S1 H1 h1 v x f1 m1 r1 q1 => by
    split at q1
    · cases r1; exact ⟨_, rfl, pk S1 H1 h1 _ f1 m1 q1⟩
    · exact q1.elim⟩
def cutT (ts : List T) (lo hi : Option Int) : List T := (ts.drop (HT.sIx ts.length 0 lo)).take (HT.sIx ts.length ts.length hi - HT.sIx ts.length 0 lo)
theorem cut_rep {vs : List V} {ts : List T} (r : RepL K S H vs ts) (lo hi : Option Int) : RepL K S H (cutV vs lo hi) (cutT ts lo hi) := by
  unfold cutV cutT
  rw [r.length]
  exact (r.drop _).take _
def eSl (fl : Bool) (a : EM) (l u : OM) : EM := fun s h Q E => a s h (fun x h1 => l s h1 (fun lo h2 => u s h2 (fun hi h3 => match x with
  | .scr ns => mk fl (cutT (ns.map T.int) lo hi) h3 Q
  | x => match lsOf h3 x with
    | some ts => mk fl (cutT ts lo hi) h3 Q
    | none => False) E) E) E
theorem j_sl (fl : Bool) {a : Expr} {lo hi : Option Expr} {ma : EM} {ml mh : OM} {p2 pos : Pos} (ha : JE X W a ma) (hl : JO X W lo ml) (hh : JO X W hi mh) : JE X W (.Subscript a (.Slice lo hi none p2) pos) (eSl fl ma ml mh) := PE.wk (pe_slice sl_list ha hl hh) fun σ H Q' ⟨S, h, s, Q, E, m, rs, lk, hm, pk⟩ =>
  ⟨S, h, s, _, E, m, rs, lk, hm, fun S1 H1 h1 v x f1 m1 r1 q1 => ⟨S1, h1, s, _, E, m1, rs.fut f1, lk.fut f1, q1, fun S2 H2 h2 l f2 m2 q2 => ⟨S2, h2, s, _, E, m2, rs.fut (f1.trans f2), lk.fut (f1.trans f2), q2, fun S3 H3 h3 u f3 m3 q3 => by
    have r3 := r1.fut (f2.trans f3)
    split at q3
    · obtain ⟨a, rfl, hh, _⟩ := r3.scr_sq
      exact ⟨_, _, rfl, hh, mk_ok m3 (cut_rep (RepL.of_ints _) l u) q3 (pk.fut ((f1.trans f2).trans f3))⟩
    · split at q3
      · rename_i ts e
        obtain ⟨a, vs, rfl, ha, r⟩ := lsOf_ok m3 r3 e
        exact ⟨a, vs, rfl, SqL.of ha, mk_ok m3 (cut_rep r l u) q3 (pk.fut ((f1.trans f2).trans f3))⟩
      · exact q3.elim⟩⟩⟩

abbrev RLT := List T → Hq → TK → Prop
def CP (K : PySem.W.Frag) (r : List V → Hp → VK → Prop) (o : RLT) : Prop := ∀ S H h vs xs Q Q', Sim K S H h → RepL K S H vs xs → o xs h Q → PK K S H Q Q' → r vs H Q'
def eCB (o : RLT) (a : AM) : EM := fun s h Q E => a s h (fun xs h1 => o xs h1 Q) E
theorem lift_cb {r : List V → Hp → VK → Prop} {o : RLT} {a : AM} (c : CP K r o) : ∀ σ H Q, liftE K W (eCB o a) σ H Q → tCB r (liftA K W a) σ H Q := fun σ H Q' ⟨S, h, s, Q, E, m, rs, lk, hm, pk⟩ =>
  ⟨S, h, s, _, E, m, rs, lk, hm, fun S1 H1 h1 vs xs f1 m1 r1 q1 => c S1 H1 h1 vs xs Q Q' m1 r1 q1 (pk.fut f1)⟩
theorem j_cb {x : Str} {id : String} {e : Expr} {es : List Expr} {a : AM} {r : List V → Hp → VK → Prop} {o : RLT} {p pos : Pos} (hc : CallR X (.builtin id) r) (c : CP X.K r o) (hg : Gl X x) (hm : X.mg x = none) (hv : bootBuiltins x = some (.builtin id)) (ha : JA X W (e :: es) a)
    (hn : x ≠ "__name__" := by decide) (hdb : (x == ("__debug__" : Str)) = false := by decide) (he : starEach (e :: es) X.env = (false, eval e X.env) :: starEach es X.env := by rfl) (hpl : (backTo pos (starEach es X.env)).any (·.1) = false := by rfl) :
    JE X W (.Call (.Name x p) (e :: es) [] pos) (eCB o a) := PE.wk (pe_callB hc hg hm hv ha hn hdb he hpl) (lift_cb c)
theorem j_cty {x : Str} {id : String} {e : Expr} {es : List Expr} {a : AM} {r : List V → Hp → VK → Prop} {o : RLT} {p pos : Pos} (hc : CallR X (.type id) r) (c : CP X.K r o) (hg : Gl X x) (hm : X.mg x = none) (hv : bootBuiltins x = some (.type id)) (ha : JA X W (e :: es) a)
    (hn : x ≠ "__name__" := by decide) (hdb : (x == ("__debug__" : Str)) = false := by decide) (he : starEach (e :: es) X.env = (false, eval e X.env) :: starEach es X.env := by rfl) (hpl : (backTo pos (starEach es X.env)).any (·.1) = false := by rfl) :
    JE X W (.Call (.Name x p) (e :: es) [] pos) (eCB o a) := PE.wk (pe_callTy hc hg hm hv ha hn hdb he hpl) (lift_cb c)
def oLen : RLT := fun xs h Q => match xs with
  | [.tup ts] => Q (.int ts.length) h
  | [.scr ns] => Q (.int ns.length) h
  | [.str z] => z.length ≤ lim ∧ Q (.int z.length) h
  | [x] => match lsOf h x with
    | some ts => Q (.int ts.length) h
    | none => False
  | _ => False
theorem c_len : CP K (fun xs H Q => ∃ x n, xs = [x] ∧ LenV K x H n ∧ Q (.int n) H) oLen := fun S H h vs xs Q Q' m r q pk => by
  unfold oLen at q
  split at q
  · cases r with
    | cons r1 rn =>
      cases rn
      cases r1 with
      | tup s hh r => exact ⟨_, _, rfl, .inr ⟨_, SqT.of hh, r.length.symm⟩, pk S H h _ _ Fut.refl m (.int _) q⟩
      | tupK hh r => exact ⟨_, _, rfl, .inr ⟨_, .inr hh, r.length.symm⟩, pk S H h _ _ Fut.refl m (.int _) q⟩
  · cases r with
    | cons r1 rn =>
      cases rn
      obtain ⟨a, rfl, hh, _⟩ := r1.scr_sq
      exact ⟨_, _, rfl, .inl ⟨_, hh, by rw [List.length_map]⟩, pk S H h _ _ Fut.refl m (.int _) q⟩
  · cases r with
    | cons r1 rn =>
      cases rn
      cases r1
      exact ⟨_, _, rfl, ⟨lim_le q.1, rfl⟩, pk S H h _ _ Fut.refl m (.int _) q.2⟩
  · cases r with
    | cons r1 rn =>
      cases rn
      split at q
      · rename_i ts e
        obtain ⟨a, vs, rfl, ha, r⟩ := lsOf_ok m r1 e
        exact ⟨_, _, rfl, .inl ⟨_, SqL.of ha, r.length.symm⟩, pk S H h _ _ Fut.refl m (.int _) q⟩
      · exact q.elim
  · exact q.elim
def oInt : RLT := fun xs h Q => match xs with
  | [.int i] => Q (.int i) h
  | [.bl b] => Q (.int (if b then 1 else 0)) h
  | _ => False
theorem c_int : CP K (fun xs H Q => (∃ i, xs = [.int i] ∧ Q (.int i) H) ∨ ∃ k, xs = [.bl k] ∧ Q (.int (if k then 1 else 0)) H) oInt := fun S H h vs xs Q Q' m r q pk => by
  unfold oInt at q
  split at q
  · cases r with
    | cons r1 rn => cases rn; cases r1; exact .inl ⟨_, rfl, pk S H h _ _ Fut.refl m (.int _) q⟩
  · cases r with
    | cons r1 rn => cases rn; cases r1; exact .inr ⟨_, rfl, pk S H h _ _ Fut.refl m (.int _) q⟩
  · exact q.elim
def intsOf : List T → Option (List Int)
  | [] => some []
  | .int i :: ts => match intsOf ts with
    | some ns => some (i :: ns)
    | none => none
  | _ => none
theorem intsOf_ok : ∀ {ts : List T} {ns : List Int}, intsOf ts = some ns → ts = ns.map T.int
  | [], _, e => by cases e; rfl
  | .int i :: ts, _, e => by
    unfold intsOf at e
    split at e
    · rename_i ns z; cases e; rw [intsOf_ok z]; rfl
    · cases e
  | .non :: _, _, e => by cases e
  | .bl _ :: _, _, e => by cases e
  | .str _ :: _, _, e => by cases e
  | .tup _ :: _, _, e => by cases e
  | .lst _ :: _, _, e => by cases e
  | .ins _ _ :: _, _, e => by cases e
  | .ref _ :: _, _, e => by cases e
  | .ty _ :: _, _, e => by cases e
  | .scr _ :: _, _, e => by cases e
@[simp] theorem intsOf_map : ∀ ns : List Int, intsOf (ns.map T.int) = some ns
  | [] => rfl
  | n :: ns => by show (match intsOf (ns.map T.int) with | some ms => some (n :: ms) | none => none) = _; rw [intsOf_map ns]
def intsIn (h : Hq) (x : T) : Option (List Int) := (lsOf h x).bind intsOf
theorem intsIn_ok (m : Sim K S H h) {v : V} {x : T} {ns : List Int} (r : Rep K S H v x) (e : intsIn h x = some ns) : ∃ a, v = .ref a ∧ H a = some (.lst (ns.map V.int)) := by
  unfold intsIn at e
  cases z : lsOf h x with
  | none => rw [z] at e; cases e
  | some ts =>
    rw [z] at e
    obtain ⟨a, vs, rfl, ha, r⟩ := lsOf_ok m r z
    rw [intsOf_ok e] at r
    rw [r.ints] at ha
    exact ⟨a, rfl, ha⟩
def oSum : RLT := fun xs h Q => match xs with
  | [x] => match intsIn h x with
    | some ns => Q (.int ns.sum) h
    | none => match x with
      | .tup ts => match intsOf ts with
        | some ns => Q (.int ns.sum) h
        | none => False
      | _ => False
  | _ => False
def oSumL : RLT := fun xs h Q => match xs with
  | [x] => match intsIn h x with
    | some ns => Q (.int ns.sum) h
    | none => False
  | _ => False
theorem c_sum : CP K (rSum K) oSumL := fun S H h vs xs Q Q' m r q pk => by
  unfold oSumL at q
  split at q
  · cases r with
    | cons r1 rn =>
      cases rn
      split at q
      · rename_i ns e
        obtain ⟨a, rfl, ha⟩ := intsIn_ok m r1 e
        exact ⟨a, ns, rfl, SqL.of ha, pk S H h _ _ Fut.refl m (.int _) q⟩
      · exact q.elim
  · exact q.elim
def oMax : RLT := fun xs h Q => match xs with
  | [.int i, .int j] => Q (.int (if j > i then j else i)) h
  | [x] => match intsIn h x with
    | some ns => 0 < ns.length ∧ ∀ m, m ∈ ns → (∀ y, y ∈ ns → y ≤ m) → Q (.int m) h
    | none => False
  | _ => False
def oMin : RLT := fun xs h Q => match xs with
  | [.int i, .int j] => Q (.int (if j < i then j else i)) h
  | [x] => match intsIn h x with
    | some ns => 0 < ns.length ∧ ∀ m, m ∈ ns → (∀ y, y ∈ ns → m ≤ y) → Q (.int m) h
    | none => False
  | _ => False
def rMaxA (K : PySem.W.Frag) : List V → Hp → VK → Prop := fun xs H Q => (∃ i j, xs = [.int i, .int j] ∧ Q (.int (if j > i then j else i)) H) ∨ rMax K xs H Q
def rMinA (K : PySem.W.Frag) : List V → Hp → VK → Prop := fun xs H Q => (∃ i j, xs = [.int i, .int j] ∧ Q (.int (if j < i then j else i)) H) ∨ rMin K xs H Q
theorem call_maxA (hc : X.calm = true) : CallR X (.builtin "max") (rMaxA X.K) := CallR.or (call_max2 hc) (cr_max hc)
theorem call_minA (hc : X.calm = true) : CallR X (.builtin "min") (rMinA X.K) := CallR.or (call_min2 hc) (cr_min hc)
theorem c_max : CP K (rMaxA K) oMax := fun S H h vs xs Q Q' m r q pk => by
  unfold oMax at q
  split at q
  · cases r with
    | cons r1 rn => cases rn with
      | cons r2 rn => cases rn; cases r1; cases r2; exact .inl ⟨_, _, rfl, pk S H h _ _ Fut.refl m (.int _) q⟩
  · cases r with
    | cons r1 rn =>
      cases rn
      split at q
      · rename_i ns e
        obtain ⟨a, rfl, ha⟩ := intsIn_ok m r1 e
        exact .inr ⟨a, ns, rfl, SqL.of ha, q.1, fun k hk hl => pk S H h _ _ Fut.refl m (.int _) (q.2 k hk hl)⟩
      · exact q.elim
  · exact q.elim
theorem c_min : CP K (rMinA K) oMin := fun S H h vs xs Q Q' m r q pk => by
  unfold oMin at q
  split at q
  · cases r with
    | cons r1 rn => cases rn with
      | cons r2 rn => cases rn; cases r1; cases r2; exact .inl ⟨_, _, rfl, pk S H h _ _ Fut.refl m (.int _) q⟩
  · cases r with
    | cons r1 rn =>
      cases rn
      split at q
      · rename_i ns e
        obtain ⟨a, rfl, ha⟩ := intsIn_ok m r1 e
        exact .inr ⟨a, ns, rfl, SqL.of ha, q.1, fun k hk hl => pk S H h _ _ Fut.refl m (.int _) (q.2 k hk hl)⟩
      · exact q.elim
  · exact q.elim
def oList (fl : Bool) : RLT := fun xs h Q => match xs with
  | [.tup ts] => mk fl ts h Q
  | [x] => match lsOf h x with
    | some ts => mk fl ts h Q
    | none => False
  | _ => False
theorem c_list (fl : Bool) : CP K (fun xs H Q => ∃ p ys, xs = [.ref p] ∧ (SqL K H p ys ∨ SqT K H p ys) ∧ ∀ l, H l = none → Q (.ref l) (upd H l (.lst ys))) (oList fl) := fun S H h vs xs Q Q' m r q pk => by
  unfold oList at q
  split at q
  · cases r with
    | cons r1 rn =>
      cases rn
      cases r1 with
      | tup s hh r => exact ⟨_, _, rfl, .inr (SqT.of hh), mk_ok m r q pk⟩
      | tupK hh r => exact ⟨_, _, rfl, .inr (.inr hh), mk_ok m r q pk⟩
  · cases r with
    | cons r1 rn =>
      cases rn
      split at q
      · rename_i ts e
        obtain ⟨a, vs, rfl, ha, r⟩ := lsOf_ok m r1 e
        exact ⟨_, _, rfl, .inl (SqL.of ha), mk_ok m r q pk⟩
      · exact q.elim
  · exact q.elim
def blsOf : List T → Option (List Bool)
  | [] => some []
  | .bl i :: ts => match blsOf ts with
    | some ns => some (i :: ns)
    | none => none
  | _ => none
theorem blsOf_ok : ∀ {ts : List T} {ns : List Bool}, blsOf ts = some ns → ts = ns.map T.bl
  | [], _, e => by cases e; rfl
  | .bl i :: ts, _, e => by
    unfold blsOf at e
    split at e
    · rename_i ns z; cases e; rw [blsOf_ok z]; rfl
    · cases e
  | .non :: _, _, e => by cases e
  | .int _ :: _, _, e => by cases e
  | .str _ :: _, _, e => by cases e
  | .tup _ :: _, _, e => by cases e
  | .lst _ :: _, _, e => by cases e
  | .ins _ _ :: _, _, e => by cases e
  | .ref _ :: _, _, e => by cases e
  | .ty _ :: _, _, e => by cases e
  | .scr _ :: _, _, e => by cases e
@[simp] theorem blsOf_map : ∀ ns : List Bool, blsOf (ns.map T.bl) = some ns
  | [] => rfl
  | n :: ns => by show (match blsOf (ns.map T.bl) with | some ms => some (n :: ms) | none => none) = _; rw [blsOf_map ns]
def oBls (g : List Bool → Bool) : RLT := fun xs h Q => match xs with
  | [x] => match (lsOf h x).bind blsOf with
    | some bs => Q (.bl (g bs)) h
    | none => False
  | _ => False
theorem c_all : CP K (rAll K) (oBls fun bs => bs.all id) := fun S H h vs xs Q Q' m r q pk => by
  unfold oBls at q
  split at q
  · cases r with
    | cons r1 rn =>
      cases rn
      split at q
      · rename_i bs e
        cases z : lsOf h _ with
        | none => rw [z] at e; cases e
        | some ts =>
          rw [z] at e
          obtain ⟨a, vs, rfl, ha, r⟩ := lsOf_ok m r1 z
          rw [blsOf_ok e] at r
          rw [r.bls] at ha
          exact ⟨a, bs, rfl, SqL.of ha, pk S H h _ _ Fut.refl m (.bl _) q⟩
      · exact q.elim
  · exact q.elim
theorem c_any : CP K (rAny K) (oBls fun bs => bs.any id) := fun S H h vs xs Q Q' m r q pk => by
  unfold oBls at q
  split at q
  · cases r with
    | cons r1 rn =>
      cases rn
      split at q
      · rename_i bs e
        cases z : lsOf h _ with
        | none => rw [z] at e; cases e
        | some ts =>
          rw [z] at e
          obtain ⟨a, vs, rfl, ha, r⟩ := lsOf_ok m r1 z
          rw [blsOf_ok e] at r
          rw [r.bls] at ha
          exact ⟨a, bs, rfl, SqL.of ha, pk S H h _ _ Fut.refl m (.bl _) q⟩
      · exact q.elim
  · exact q.elim

def PX (K : PySem.W.Frag) (S : Fz) (H : Hp) (E : Ex → Hq → Prop) (E' : XK) : Prop := ∀ S1 H1 h1 x cls d, Fut S H S1 H1 → Sim K S1 H1 h1 → RepX K S1 H1 cls d x → E x h1 → E' cls d H1
def liftSp (K : PySem.W.Frag) (n : Nat) (c : Con) : Sp := fun vs H Q' E' => ∃ S h ts Q E, Sim K S H h ∧ RepL K S H vs ts ∧ ts.length = n ∧ c ts h Q E ∧ PK K S H Q Q' ∧ PX K S H E E'
def eCall (n : Nat) (c : Con) (a : AM) : EM := fun s h Q E => a s h (fun ts h1 => ts.length = n ∧ c ts h1 Q fun x h2 => E x s h2) E
theorem j_call {CX : CXT} {k n : Nat} {f : Addr} {fd : FuncData} {ps : List Str} {c : Con} {x : Str} {p pos : Pos} {e : Expr} {es : List Expr} {a : AM} (F : FnOk X.prog X.w X.K X.mg X.base CX k f fd ps (liftSp X.K n c)) (hr : Room k X.A) (hg : Gl X x) (hm : X.mg x = some (.ref f))
    (hk : PySem.W.keepIn X.K (.ref f) = true) (hb : Binds X.K fd ps []) (hx : ∀ σ, PassesAt CX X σ (WE W σ)) (ha : JA X W (e :: es) a)
    (hd : (x == ("__debug__" : Str)) = false := by decide) (he : starEach (e :: es) X.env = (false, eval e X.env) :: starEach es X.env := by rfl) (hpl : (backTo pos (starEach es X.env)).any (·.1) = false := by rfl) :
    JE X W (.Call (.Name x p) (e :: es) [] pos) (eCall n c a) := PE.wk (pe_callS (E := WE W) F hr hg hm hk hb hx ha hd he hpl) fun σ H Q' ⟨S, h, s, Q, E, m, rs, lk, hm, pk⟩ =>
  ⟨S, h, s, _, E, m, rs, lk, hm, fun S1 H1 h1 vs ts f1 m1 r1 ⟨l1, q1⟩ => ⟨S1, h1, ts, Q, _, m1, r1, l1, q1, pk.fut f1, fun S2 H2 h2 x cls d f2 m2 r2 q2 => lk S2 H2 h2 σ s x cls d (f1.trans f2) m2 (rs.fut (f1.trans f2)) r2 q2⟩⟩
abbrev W0 : WX := fun _ _ _ _ => False
theorem px0 {P : Program} {w : World} (hP : X.prog = P := by rfl) (hw : X.w = w := by rfl) : ∀ σ, PassesAt (L2.CX P w) X σ (WE W0 σ) := fun σ pins H s e s' I c => by
  obtain ⟨_, _, _, _, _, _, _, _, _, _, _, _, z⟩ := c
  exact z.elim
theorem pxT {P : Program} {w : World} (tk : Takes X W) (hP : X.prog = P := by rfl) (hw : X.w = w := by rfl) : ∀ σ, PassesAt (L2.CX P w) X σ (WE W σ) := by
  subst hP hw
  exact fun σ => passAt tk σ

abbrev MT := T → List T → Hq → TK → Prop
def MP (K : PySem.W.Frag) (Ty : String) (r : V → List V → Hp → VK → Prop) (o : MT) : Prop := ∀ S H h v vs x xs Q Q', Sim K S H h → Rep K S H v x → RepL K S H vs xs → o x xs h Q → PK K S H Q Q' → tyV K Ty v H ∧ r v vs H Q'
def eBM (ok : T → Hq → Prop) (o : MT) (a : EM) (r : AM) : EM := fun s h Q E => a s h (fun x h1 => ok x h1 ∧ r s h1 (fun xs h2 => o x xs h2 Q) E) E
def TyOk (K : PySem.W.Frag) (Ty : String) (ok : T → Hq → Prop) : Prop := ∀ S H h v x, Sim K S H h → Rep K S H v x → ok x h → tyV K Ty v H
def MR (K : PySem.W.Frag) (r : V → List V → Hp → VK → Prop) (o : MT) : Prop := ∀ S H h v vs x xs Q Q', Sim K S H h → Rep K S H v x → RepL K S H vs xs → o x xs h Q → PK K S H Q Q' → r v vs H Q'
theorem lift_bm {Ty : String} {ok : T → Hq → Prop} {r : V → List V → Hp → VK → Prop} {o : MT} {a : EM} {b : AM} (t : TyOk K Ty ok) (c : MR K r o) : ∀ σ H Q, liftE K W (eBM ok o a b) σ H Q → tBM K Ty r (liftE K W a) (liftA K W b) σ H Q := fun σ H Q' ⟨S, h, s, Q, E, m, rs, lk, hm, pk⟩ =>
  ⟨S, h, s, _, E, m, rs, lk, hm, fun S1 H1 h1 v x f1 m1 r1 ⟨k1, q1⟩ => ⟨t S1 H1 h1 v x m1 r1 k1, S1, h1, s, _, E, m1, rs.fut f1, lk.fut f1, q1, fun S2 H2 h2 vs xs f2 m2 r2 q2 => c S2 H2 h2 v vs x xs Q Q' m2 (r1.fut f2) r2 q2 (pk.fut (f1.trans f2))⟩⟩
def eBM0 (ok : T → Hq → Prop) (o : MT) (a : EM) : EM := fun s h Q E => a s h (fun x h1 => ok x h1 ∧ o x [] h1 Q) E
theorem lift_bm0 {Ty : String} {ok : T → Hq → Prop} {r : V → List V → Hp → VK → Prop} {o : MT} {a : EM} (t : TyOk K Ty ok) (c : MR K r o) : ∀ σ H Q, liftE K W (eBM0 ok o a) σ H Q → tBM0 K Ty r (liftE K W a) σ H Q := fun σ H Q' ⟨S, h, s, Q, E, m, rs, lk, hm, pk⟩ =>
  ⟨S, h, s, _, E, m, rs, lk, hm, fun S1 H1 h1 v x f1 m1 r1 ⟨k1, q1⟩ => ⟨t S1 H1 h1 v x m1 r1 k1, c S1 H1 h1 v [] x [] Q Q' m1 r1 .nil q1 (pk.fut f1)⟩⟩
theorem j_bm {Ty : String} {name : Str} {id : String} {o : Expr} {e : Expr} {es : List Expr} {ok : T → Hq → Prop} {r : V → List V → Hp → VK → Prop} {q : MT} {a : EM} {b : AM} {apos cpos : Pos} (pa : PlainAttrs Ty) (slot : Slot Ty name id) (hty : typeOf (.builtin id) = pure (.type "method_descriptor")) (hm : MtR X id r) (t : TyOk X.K Ty ok) (c : MR X.K r q) (ho : JE X W o a) (ha : JA X W (e :: es) b)
    (hbase : attributeBase o name X.env (eval o X.env) = eval o X.env := by rfl)
    (hfew : ((backTo cpos (starEach (e :: es) X.env)).all (fun x => !x.1) && (backToKw cpos (keywordEach [] X.env)).all (fun x => x.1.isSome)
      && decide ((e :: es).length + ([] : List Keyword).length + (if ([] : List Keyword).isEmpty then 0 else 1) < 30)) = true := by rfl) (hline : (apos.endLine == cpos.line) = true := by rfl)
    (hs : starEach (e :: es) X.env = (false, eval e X.env) :: starEach es X.env := by rfl) (hplain : ((backTo cpos (starEach es X.env)).any fun x => x.fst) = false := by rfl) :
    JE X W (.Call (.Attribute o name apos) (e :: es) [] cpos) (eBM ok q a b) := PE.wk (pe_bm pa slot hty hm ho ha (hbase := hbase) (hfew := hfew) (hline := hline) (hs := hs) (hplain := hplain)) (lift_bm t c)
theorem j_bm0 {Ty : String} {name : Str} {id : String} {o : Expr} {ok : T → Hq → Prop} {r : V → List V → Hp → VK → Prop} {q : MT} {a : EM} {apos cpos : Pos} (pa : PlainAttrs Ty) (slot : Slot Ty name id) (hty : typeOf (.builtin id) = pure (.type "method_descriptor")) (hm : MtR X id r) (t : TyOk X.K Ty ok) (c : MR X.K r q) (ho : JE X W o a)
    (hbase : attributeBase o name X.env (eval o X.env) = eval o X.env := by rfl) (hline : (apos.endLine == cpos.line) = true := by rfl) :
    JE X W (.Call (.Attribute o name apos) [] [] cpos) (eBM0 ok q a) := PE.wk (pe_bm0 pa slot hty hm ho hbase hline) (lift_bm0 t c)
def isLs : T → Hq → Prop := fun x h => (lsOf h x).isSome = true
theorem ty_list : TyOk K "list" isLs := fun S H h v x m r k => by
  unfold isLs at k
  cases z : lsOf h x with
  | none => rw [z] at k; cases k
  | some ts =>
    obtain ⟨a, vs, rfl, ha, _⟩ := lsOf_ok m r z
    exact .inl ⟨rfl, vs, SqL.of ha⟩
def oApp : MT := fun x xs h Q => match x, xs with
  | .ref p, [y] => match h p with
    | some (.lst ts) => ts.length < lim ∧ Q .non (put h p (.lst (ts ++ [y])))
    | _ => False
  | _, _ => False
theorem ref_lst (m : Sim K S H h) {p : Addr} {ts : List T} (e : h p = some (.lst ts)) : ∃ vs, H p = some (.lst vs) ∧ RepL K S H vs ts := by
  obtain ⟨u, e1, vs, e2, r2⟩ := m.ob p _ e
  subst e2
  exact ⟨vs, e1, r2⟩
theorem c_app : MR K rAppend oApp := fun S H h v vs x xs Q Q' m r1 r2 q pk => by
  unfold oApp at q
  split at q
  · split at q
    · rename_i ts e
      cases r1
      cases r2 with
      | cons ry rn =>
        cases rn
        obtain ⟨vs, e1, r⟩ := ref_lst m e
        refine ⟨_, vs, _, rfl, rfl, e1, lim_lt (by rw [r.length]; exact Nat.le_of_lt q.1), ?_⟩
        exact pk S _ _ _ _ (fut_upd (m.nS' e)) (m.write (o' := .lst (ts ++ [_])) e ⟨_, rfl, r.append (.cons ry .nil)⟩) .non q.2
    · exact q.elim
  · exact q.elim
def oPop : MT := fun x xs h Q => match x, xs with
  | .ref p, [] => match h p with
    | some (.lst ts) => match ts[ts.length - 1]? with
      | some y => Q y (put h p (.lst ts.dropLast))
      | none => False
    | _ => False
  | _, _ => False
theorem c_pop : MR K rPop oPop := fun S H h v vs x xs Q Q' m r1 r2 q pk => by
  unfold oPop at q
  split at q
  · split at q
    · rename_i ts e
      cases r1
      cases r2
      obtain ⟨vs, e1, r⟩ := ref_lst m e
      split at q
      · rename_i y ey
        rw [← r.length] at ey
        obtain ⟨v, ev, rv⟩ := r.get ey
        refine ⟨_, vs, v, rfl, rfl, e1, ev, ?_⟩
        have f : Fut S H S (upd H _ (.lst vs.dropLast)) := fut_upd (m.nS' e)
        exact pk S _ _ _ _ f (m.write (o' := .lst ts.dropLast) e ⟨_, rfl, r.dropLast⟩) (rv.fut f) q
      · exact q.elim
    · exact q.elim
  · exact q.elim
def oExt : MT := fun x xs h Q => match x, xs with
  | .ref p, [y] => match h p, lsOf h y with
    | some (.lst ts), some us => ts.length + us.length ≤ lim ∧ Q .non (put h p (.lst (ts ++ us)))
    | _, _ => False
  | _, _ => False
theorem c_ext : MR K rExtend oExt := fun S H h v vs x xs Q Q' m r1 r2 q pk => by
  unfold oExt at q
  split at q
  · split at q
    · rename_i ts us e eu
      cases r1
      cases r2 with
      | cons ry rn =>
        cases rn
        obtain ⟨vs, e1, r⟩ := ref_lst m e
        obtain ⟨b, ws, rfl, hb, rb⟩ := lsOf_ok m ry eu
        refine ⟨_, b, vs, ws, rfl, rfl, e1, hb, lim_le (by rw [r.length, rb.length]; exact q.1), ?_⟩
        exact pk S _ _ _ _ (fut_upd (m.nS' e)) (m.write (o' := .lst (ts ++ us)) e ⟨_, rfl, r.append rb⟩) .non q.2
    · exact q.elim
  · exact q.elim
end
end TL

namespace TL
open PySem L2
section
variable {X : Cx} {W : WX} {K : PySem.W.Frag} {S : Fz} {H : Hp} {h : Hq}
def tTru (a : EM) : TM := fun s h Q E => a s h (fun x h1 => match x with
  | .non => Q false h1
  | .bl b => Q b h1
  | .int i => Q (i != 0) h1
  | .str z => z.length ≤ lim ∧ Q ((z.length : Int) != 0) h1
  | .tup ts => Q (!ts.isEmpty) h1
  | x => match lsOf h1 x with
    | some ts => Q (!ts.isEmpty) h1
    | none => False) E
theorem RepL.isEmpty {vs : List V} {ts : List T} (r : RepL K S H vs ts) : vs.isEmpty = ts.isEmpty := by cases r <;> rfl
theorem jt_tru {a : Expr} {m : EM} (ha : JE X W a m) (he : ∀ whole, isTrue a X.env whole = (do let v ← whole; standAt a.pos; holding [v] (truthy v)) := by intro _; rfl) : JT X W a (tTru m) := PT.wk (pt_truth ha he) fun σ H Q' ⟨S, h, s, Q, E, m, rs, lk, hm, pk⟩ =>
  ⟨S, h, s, _, E, m, rs, lk, hm, fun S1 H1 h1 v x f1 m1 r1 q1 => by
    split at q1
    · cases r1; exact ⟨false, rfl, pk S1 H1 h1 _ f1 m1 q1⟩
    · cases r1; exact ⟨_, rfl, pk S1 H1 h1 _ f1 m1 q1⟩
    · cases r1; exact ⟨_, rfl, pk S1 H1 h1 _ f1 m1 q1⟩
    · cases r1; exact ⟨_, ⟨lim_le q1.1, rfl⟩, pk S1 H1 h1 _ f1 m1 q1.2⟩
    · cases r1 with
      | tup s hh r => exact ⟨_, .inr (.inl ⟨_, SqT.of hh, by rw [r.isEmpty]⟩), pk S1 H1 h1 _ f1 m1 q1⟩
      | tupK hh r => exact ⟨_, .inr (.inl ⟨_, .inr hh, by rw [r.isEmpty]⟩), pk S1 H1 h1 _ f1 m1 q1⟩
    · split at q1
      · rename_i ts e
        obtain ⟨a, vs, rfl, ha, r⟩ := lsOf_ok m1 r1 e
        exact ⟨_, .inl ⟨_, SqL.of ha, by rw [r.isEmpty]⟩, pk S1 H1 h1 _ f1 m1 q1⟩
      · exact q1.elim⟩

def sNext : SM := fun D s h => D.nx s h
def sSeq (a b : SM) : SM := fun D s h => a { D with nx := b D } s h
def sDrop (a : EM) : SM := fun D s h => a s h (fun _ h1 => D.nx s h1) D.ex
def sRet (a : EM) : SM := fun D s h => a s h D.rt D.ex
def sRetN : SM := fun D _ h => D.rt .non h
def sIf (c : TM) (a b : SM) : SM := fun D s h => c s h (fun d h1 => if d = true then a D s h1 else b D s h1) D.ex
def sBreak : SM := fun D s h => D.bk s h
def sCont : SM := fun D s h => D.ct s h
def sNever : SM := fun _ _ _ => False
theorem js_pass {pos : Pos} : JS X W (.Pass pos) sNext := PS.wk ps_pass fun D' σ H ⟨S, h, s, D, m, rs, lk, hm⟩ => lk.nx S H h σ s Fut.refl m rs hm
theorem js_break {pos : Pos} : JS X W (.Break pos) sBreak := PS.wk ps_break fun D' σ H ⟨S, h, s, D, m, rs, lk, hm⟩ => lk.bk S H h σ s Fut.refl m rs hm
theorem js_cont {pos : Pos} : JS X W (.Continue pos) sCont := PS.wk ps_continue fun D' σ H ⟨S, h, s, D, m, rs, lk, hm⟩ => lk.ct S H h σ s Fut.refl m rs hm
theorem js_never {st : Stmt} : JS X W st sNever := PS.wk ps_never fun D' σ H ⟨S, h, s, D, m, rs, lk, hm⟩ => hm
theorem jss_nil : JSs X W [] sNext := PSs.wk pss_nil fun D' σ H ⟨S, h, s, D, m, rs, lk, hm⟩ => lk.nx S H h σ s Fut.refl m rs hm
theorem jss_one {st : Stmt} {a : SM} (ha : JS X W st a) : JSs X W [st] a := pss_one ha
theorem jss_cons {st : Stmt} {rest : List Stmt} {a b : SM} (ha : JS X W st a) (hb : JSs X W rest b) : JSs X W (st :: rest) (sSeq a b) := PSs.wk (pss_cons ha hb) fun D' σ H ⟨S, h, s, D, m, rs, lk, hm⟩ =>
  ⟨S, h, s, { D with nx := b D }, m, rs, { nx := fun S1 H1 h1 σ1 s1 f1 m1 r1 q1 => ⟨S1, h1, s1, D, m1, r1, lk.fut f1, q1⟩, rt := lk.rt, bk := lk.bk, ct := lk.ct, ex := lk.ex }, hm⟩
theorem js_expr {e : Expr} {a : EM} {pos : Pos} (ha : JE X W e a) (hs : swapsWith e none pos.line X.env = pure false := by rfl) : JS X W (.Expr e pos) (sDrop a) := PS.wk (ps_expr ha hs) fun D' σ H ⟨S, h, s, D, m, rs, lk, hm⟩ =>
  ⟨S, h, s, _, D.ex, m, rs, lk.ex, hm, fun S1 H1 h1 v x f1 m1 r1 q1 => lk.nx S1 H1 h1 σ s f1 m1 (rs.fut f1) q1⟩
theorem js_doc {x j pos pos'} : JS X W (.Expr (.Constant (.str x) j pos) pos') sNext := PS.wk ps_doc fun D' σ H ⟨S, h, s, D, m, rs, lk, hm⟩ => lk.nx S H h σ s Fut.refl m rs hm
theorem js_ret {e : Expr} {a : EM} {pos : Pos} (ha : JE X W e a) : JS X W (.Return (some e) pos) (sRet a) := PS.wk (ps_ret ha) fun D' σ H ⟨S, h, s, D, m, rs, lk, hm⟩ => ⟨S, h, s, _, D.ex, m, rs, lk.ex, hm, lk.rt⟩
theorem js_retN {pos : Pos} : JS X W (.Return none pos) sRetN := PS.wk ps_retN fun D' σ H ⟨S, h, s, D, m, rs, lk, hm⟩ => lk.rt S H h _ _ Fut.refl m .non hm
theorem js_if {c : Expr} {as bs : List Stmt} {mc : TM} {a b : SM} {pos : Pos} (hc : JT X W c mc) (ha : JSs X W as a) (hb : JSs X W bs b) : JS X W (.If c as bs pos) (sIf mc a b) := PS.wk (ps_if hc ha hb) fun D' σ H ⟨S, h, s, D, m, rs, lk, hm⟩ =>
  ⟨S, h, s, _, D.ex, m, rs, lk.ex, hm, fun S1 H1 h1 d f1 m1 q1 => by
    cases d with
    | true => rw [if_pos rfl] at q1 ⊢; exact ⟨S1, h1, s, D, m1, rs.fut f1, lk.fut f1, q1⟩
    | false => rw [if_neg Bool.false_ne_true] at q1 ⊢; exact ⟨S1, h1, s, D, m1, rs.fut f1, lk.fut f1, q1⟩⟩

def gN (i : Nat) : GM := fun t s h Q _ => Q (s.set i (some t)) h
theorem jg_name {i : Nat} {x : Str} {pos : Pos} (hN : X.N.Nodup) (hi : X.N[i]? = some x) (hx : Loc X.env.scope x) (hf : X.fn x = true ∨ X.env.scope.names.lookup x = some .local := by first | exact .inl rfl | exact .inr rfl | assumption) : JG X W (.Name x pos) (gN i) := PG.wk (pg_name hN hi hx hf) fun v σ H Q' ⟨S, h, s, t, Q, E, m, rs, r, lk, hm, pk⟩ => pk S H h _ _ Fut.refl m (rs.set r i) hm
def gNil : GMs := fun ts s h Q _ => ts = [] ∧ Q s h
def gCons (a : GM) (b : GMs) : GMs := fun ts s h Q E => match ts with
  | t :: r => a t s h (fun s1 h1 => b r s1 h1 Q E) E
  | [] => False
theorem jgs_nil : JGs X W [] gNil := PGs.wk pgs_nil fun v σ H Q' ⟨S, h, s, t, Q, E, m, rs, r, lk, hm, pk⟩ => by
  obtain ⟨rfl, hm⟩ := hm
  cases r
  exact ⟨rfl, pk S H h _ _ Fut.refl m rs hm⟩
theorem jgs_cons {e : Expr} {es : List Expr} {a : GM} {b : GMs} (ha : JG X W e a) (hb : JGs X W es b) (hs : (assignEach (e :: es) X.env).map (·.2) = assign e X.env :: (assignEach es X.env).map (·.2) := by rfl) : JGs X W (e :: es) (gCons a b) := PGs.wk (pgs_cons ha hb hs) fun v σ H Q' ⟨S, h, s, t, Q, E, m, rs, r, lk, hm, pk⟩ => by
  cases r with
  | nil => exact hm.elim
  | cons r1 rn => exact ⟨_, _, rfl, S, h, s, _, _, E, m, rs, r1, lk, hm, fun S1 H1 h1 σ1 s1 f1 m1 q1 k1 => ⟨S1, h1, s1, _, Q, E, m1, q1, rn.fut f1, lk.fut f1, k1, pk.fut f1⟩⟩
def gTup (n : Nat) (b : GMs) : GM := fun t s h Q E => match t with
  | .tup ts => ts.length = n ∧ b ts s h Q E
  | _ => False
theorem jg_tup {es : List Expr} {k n : Nat} {b : GMs} {pos : Pos} (hc : X.calm = true) (hb : JGs X W es b) (hn : (assignEach es X.env).length = n := by rfl) (hst : (assignEach es X.env).findIdx? (·.1) = none := by rfl) : JG X W (.Tuple es k pos) (gTup n b) := PG.wk (pg_tup hc hb hn hst) fun v σ H Q' ⟨S, h, s, t, Q, E, m, rs, r, lk, hm, pk⟩ => by
  unfold gTup at hm
  split at hm
  · cases r with
    | tup s hh r => exact ⟨_, _, rfl, SqT.of hh, by rw [r.length]; exact hm.1, S, h, _, _, Q, E, m, rs, r, lk, hm.2, pk⟩
    | tupK hh r => exact ⟨_, _, rfl, .inr hh, by rw [r.length]; exact hm.1, S, h, _, _, Q, E, m, rs, r, lk, hm.2, pk⟩
  · exact hm.elim
def setT (o i v : T) (h : Hq) (Q : Hq → Prop) : Prop := match o, i with
  | .ref p, .int k => match h p with
    | some (.lst ts) => match ixN ts.length k with
      | some j => Q (put h p (.lst (ts.set j v)))
      | none => False
    | _ => False
  | _, _ => False
theorem setT_ok (m : Sim K S H h) {o i v : V} {to ti tv : T} {Q : Hq → Prop} {Q' : Hp → Prop} (ro : Rep K S H o to) (ri : Rep K S H i ti) (rv : Rep K S H v tv) (q : setT to ti tv h Q) (pk : ∀ H1 h1, Fut S H S H1 → Sim K S H1 h1 → Q h1 → Q' H1) : rSetL o i v H Q' := by
  unfold setT at q
  split at q
  · split at q
    · split at q
      · rename_i ts e _ j ej
        cases ro
        cases ri
        obtain ⟨vs, e1, r⟩ := ref_lst m e
        refine ⟨_, vs, _, j, rfl, rfl, e1, by rw [r.length]; exact ej, ?_⟩
        exact pk _ _ (fut_upd (m.nS' e)) (m.write (o' := .lst (ts.set j tv)) e ⟨_, rfl, r.set rv j⟩) q
      · exact q.elim
    · exact q.elim
  · exact q.elim
def gSub (a b : EM) : GM := fun v s h Q E => a s h (fun o h1 => b s h1 (fun i h2 => setT o i v h2 fun h3 => Q s h3) E) E
theorem jg_sub {o i : Expr} {a b : EM} {pos : Pos} (ho : JE X W o a) (hi : JE X W i b)
    (ha : ∀ v, assign (.Subscript o i pos) X.env v = (do
      let ov ← holding [v] (eval o X.env)
      let iv ← holding [v, ov] (eval i X.env)
      standAt pos
      holding [v, ov, iv] (setItem ov iv v)
      release [v, ov, iv] []) := by intro _; rfl) : JG X W (.Subscript o i pos) (gSub a b) := PG.wk (pg_sub ho hi set_list ha) fun v σ H Q' ⟨S, h, s, t, Q, E, m, rs, r, lk, hm, pk⟩ =>
  ⟨S, h, s, _, E, m, rs, lk, hm, fun S1 H1 h1 vo to f1 m1 r1 q1 => ⟨S1, h1, s, _, E, m1, rs.fut f1, lk.fut f1, q1, fun S2 H2 h2 vi ti f2 m2 r2 q2 =>
    setT_ok m2 (r1.fut f2) r2 (r.fut (f1.trans f2)) q2 fun H3 h3 f3 m3 q3 => pk S2 H3 h3 σ s ((f1.trans f2).trans f3) m3 (rs.fut ((f1.trans f2).trans f3)) q3⟩⟩
def sAsg (a : EM) (g : GM) : SM := fun D s h => a s h (fun x h1 => g x s h1 D.nx D.ex) D.ex
theorem js_asg {tg e : Expr} {a : EM} {g : GM} {pos : Pos} (ha : JE X W e a) (hg : JG X W tg g) (hs : swapsWithSole [tg] e pos.line X.env = pure false := by rfl) (hw : swappedStores [tg] e X.env = pure none := by rfl) (h1 : (assignEach [tg] X.env).map (·.2) = [assign tg X.env] := by rfl) : JS X W (.Assign [tg] e pos) (sAsg a g) := PS.wk (ps_asg ha hg hs hw h1) fun D' σ H ⟨S, h, s, D, m, rs, lk, hm⟩ =>
  ⟨S, h, s, _, D.ex, m, rs, lk.ex, hm, fun S1 H1 h1 v x f1 m1 r1 q1 => ⟨S1, h1, s, x, D.nx, D.ex, m1, rs.fut f1, r1, lk.ex.fut f1, q1, lk.nx.fut f1⟩⟩
theorem js_set {i : Nat} {x : Str} {e : Expr} {a : EM} {pos pos' : Pos} (hN : X.N.Nodup) (hi : X.N[i]? = some x) (hx : Loc X.env.scope x) (ha : JE X W e a) (hs : swapsWith e (some (.Name x pos')) pos.line X.env = pure false := by rfl) (hf : X.fn x = true ∨ X.env.scope.names.lookup x = some .local := by first | exact .inl rfl | exact .inr rfl | assumption) :
    JS X W (.Assign [.Name x pos'] e pos) (sAsg a (gN i)) := PS.wk (ps_set hN hi hx ha hs hf) fun D' σ H ⟨S, h, s, D, m, rs, lk, hm⟩ =>
  ⟨S, h, s, _, D.ex, m, rs, lk.ex, hm, fun S1 H1 h1 v x f1 m1 r1 q1 => lk.nx S1 H1 h1 _ _ f1 m1 ((rs.fut f1).set r1 i) q1⟩
def sPar (i j : Nat) (a : AM) : SM := fun D s h => a s h (fun ts h1 => match ts with
  | [x, y] => D.nx ((s.set i (some x)).set j (some y)) h1
  | _ => False) D.ex
theorem js_par {i j : Nat} {x y : Str} {a b : Expr} {m : AM} {px py pt : Pos} {kt k2 pt2} {pos : Pos} (hc : X.calm = true) (hN : X.N.Nodup) (hi : X.N[i]? = some x) (hj : X.N[j]? = some y) (hij : i ≠ j)
    (hx : X.env.scope.names.lookup x = some .local) (hy : X.env.scope.names.lookup y = some .local) (ha : JA X W [a, b] m)
    (hw : swappedStores [.Tuple [.Name x px, .Name y py] kt pt] (.Tuple [a, b] k2 pt2) X.env = pure (some [x, y]))
    (hs : swapsWithSole [.Tuple [.Name x px, .Name y py] kt pt] (.Tuple [a, b] k2 pt2) pos.line X.env = pure false := by rfl) :
    JS X W (.Assign [.Tuple [.Name x px, .Name y py] kt pt] (.Tuple [a, b] k2 pt2) pos) (sPar i j m) := PS.wk (ps_par hc hN hi hj hij hx hy ha hw hs) fun D' σ H ⟨S, h, s, D, m, rs, lk, hm⟩ =>
  ⟨S, h, s, _, D.ex, m, rs, lk.ex, hm, fun S1 H1 h1 vs ts f1 m1 r1 q1 => by
    split at q1
    · cases r1 with
      | cons ra rn => cases rn with
        | cons rb rn => cases rn; exact ⟨_, _, rfl, lk.nx S1 H1 h1 _ _ f1 m1 (((rs.fut f1).set ra i).set rb j) q1⟩
    · exact q1.elim⟩
def sAug (i : Nat) (a : EM) (o : R2T) : SM := fun D s h => match s[i]? with
  | some (some x) => a s h (fun y h1 => o x y h1 fun z h2 => D.nx (s.set i (some z)) h2) D.ex
  | _ => False
theorem js_aug {i : Nat} {x : Str} {e : Expr} {a : EM} {op : Operator} {ti : TIp} {o : R2T} {pos pos' : Pos} (hN : X.N.Nodup) (hi : X.N[i]? = some x) (hx : Loc X.env.scope x) (ha : JE X W e a) (ho : PIp X op ti) (p : OP X.K ti o) (hf : X.fn x = true ∨ X.env.scope.names.lookup x = some .local := by first | exact .inl rfl | exact .inr rfl | assumption) :
    JS X W (.AugAssign (.Name x pos') op e pos) (sAug i a o) := PS.wk (ps_aug hN hi hx ha ho hf) fun D' σ H ⟨S, h, s, D, m, rs, lk, hm⟩ => by
  unfold sAug at hm
  split at hm
  · rename_i t e
    obtain ⟨v, e1, r⟩ := rs.at_ i t e
    exact ⟨v, e1, S, h, s, _, D.ex, m, rs, lk.ex, hm, fun S1 H1 h1 w y f1 m1 r1 q1 => p S1 H1 h1 v w t y _ _ m1 (r.fut f1) r1 q1 fun S2 H2 h2 u z f2 m2 r2 q2 => lk.nx S2 H2 h2 _ _ (f1.trans f2) m2 ((rs.fut (f1.trans f2)).set r2 i) q2⟩
  · exact hm.elim
theorem get_list : PGet X (rIxL X.K) := by
  intro pins s σ H o i ov iv Q I ro ri h
  obtain ⟨p, xs, k, z, rfl, rfl, hq, he, q⟩ := h
  cases ro
  obtain ⟨t, rfl⟩ := ri
  obtain ⟨its, r, pl, hz⟩ := I.list hq
  obtain ⟨j, h1, h2, h3, h4, h5⟩ := atI_get he
  obtain ⟨w, ew, rw'⟩ := r.get h2
  have hl := r.length
  have hn := line63
  have fin : EP X pins σ Q w s := ⟨z, H, I, rw', q⟩
  by_cases h0 : 0 ≤ k
  · have hj : k.toNat = j := by
      rw [PySem.seqIndex_of h0 h5] at h1
      exact Option.some.inj h1
    exact wpAny_getItem_list pl.isList h0 (by omega) (by rw [hj]; simpa using ew) fin
  · have hj : (k + (its.toArray.size : Int)).toNat = j := by
      rw [PySem.seqIndex_neg (by omega) h4] at h1
      rw [List.size_toArray, ← hl]
      exact Option.some.inj h1
    exact wpAny_getItem_list_neg pl.isList (by omega) (by rw [List.size_toArray] <;> omega) (by omega) (by rw [hj]; simpa using ew) fin
def oIxL : R2T := fun x y h Q => match y with
  | .int i => match lsOf h x with
    | some ts => atK ts i h Q
    | none => False
  | _ => False
theorem p_ixL : OP K (rIxL K) oIxL := fun S H h v w x y Q Q' m r1 r2 q pk => by
  unfold oIxL at q
  split at q
  · split at q
    · rename_i ts e
      cases r2
      obtain ⟨a, vs, rfl, ha, r⟩ := lsOf_ok m r1 e
      obtain ⟨u, e, q'⟩ := atK_ok m r q pk
      exact ⟨a, vs, _, u, rfl, rfl, SqL.of ha, e, q'⟩
    · exact q.elim
  · exact q.elim
def sAugS (a b e : EM) (o : R2T) : SM := fun D s h => a s h (fun x h1 => b s h1 (fun i h2 => oIxL x i h2 fun y h3 => e s h3 (fun z h4 => o y z h4 fun w h5 => setT x i w h5 fun h6 => D.nx s h6) D.ex) D.ex) D.ex
theorem js_augS {o i e : Expr} {a b c : EM} {op : Operator} {ti : TIp} {u : R2T} {pos tpos : Pos} (ho : JE X W o a) (hi : JE X W i b) (he : JE X W e c) (hp : PIp X op ti) (p : OP X.K ti u)
    (ha : ∀ ov iv new, augStore i ov iv new = (do holding [new, ov, iv] (setItem ov iv new); release [new, ov, iv] []; pure .next) := by intros; rfl) : JS X W (.AugAssign (.Subscript o i tpos) op e pos) (sAugS a b c u) := PS.wk (ps_augS ho hi get_list he hp set_list ha) fun D' σ H ⟨S, h, s, D, m, rs, lk, hm⟩ =>
  ⟨S, h, s, _, D.ex, m, rs, lk.ex, hm, fun S1 H1 h1 vo to f1 m1 r1 q1 => ⟨S1, h1, s, _, D.ex, m1, rs.fut f1, lk.ex.fut f1, q1, fun S2 H2 h2 vi ti f2 m2 r2 q2 =>
    p_ixL S2 H2 h2 vo vi to ti _ _ m2 (r1.fut f2) r2 q2 fun S3 H3 h3 vy y f3 m3 r3 q3 => ⟨S3, h3, s, _, D.ex, m3, rs.fut ((f1.trans f2).trans f3), lk.ex.fut ((f1.trans f2).trans f3), q3, fun S4 H4 h4 vz z f4 m4 r4 q4 =>
      p S4 H4 h4 vy vz y z _ _ m4 (r3.fut f4) r4 q4 fun S5 H5 h5 vw w f5 m5 r5 q5 => setT_ok m5 (r1.fut (((f2.trans f3).trans f4).trans f5)) (r2.fut ((f3.trans f4).trans f5)) r5 q5 fun H6 h6 f6 m6 q6 =>
        lk.nx S5 H6 h6 σ s (((((f1.trans f2).trans f3).trans f4).trans f5).trans f6) m6 (rs.fut (((((f1.trans f2).trans f3).trans f4).trans f5).trans f6)) q6⟩⟩⟩
def oAddI : R2T := oI fun i j => .int (i + j)
theorem p_iadd : OP K (ipI fun i j => i + j) oAddI := fun S H h v w x y Q Q' m r1 r2 q pk => (op_I (g := fun i j => .int (i + j)) (g' := fun i j => .int (i + j)) (fun _ _ _ _ => .int _)) S H h v w x y Q Q' m r1 r2 q pk
theorem p_isub : OP K (ipI fun i j => i - j) oSub := fun S H h v w x y Q Q' m r1 r2 q pk => (op_I (g := fun i j => .int (i - j)) (g' := fun i j => .int (i - j)) (fun _ _ _ _ => .int _)) S H h v w x y Q Q' m r1 r2 q pk

def sWhile (c : TM) (b : SM) : SM := fun D s h => ∃ I : Nat → SK, (∃ n, I n s h) ∧ ∀ n s h, I n s h → c s h (fun d h1 => if d = true then b { D with nx := fun s' h' => ∃ n', n' < n ∧ I n' s' h', ct := fun s' h' => ∃ n', n' < n ∧ I n' s' h', bk := D.nx } s h1 else D.nx s h1) D.ex
theorem js_while {c : Expr} {body : List Stmt} {mc : TM} {b : SM} {pos : Pos} (hp : PassesOwn (model X.prog X.w) X.A X.env X.xe) (hc : JT X W c mc) (hb : JSs X W body b) : JS X W (.While c body [] pos) (sWhile mc b) := PS.wk (ps_while hp hc hb) fun D' σ H ⟨S, h, s, D, m, rs, lk, hm⟩ => by
  obtain ⟨I, ⟨n, i0⟩, step⟩ := hm
  refine ⟨fun n σ1 H1 => ∃ S1 h1 s1, Fut S H S1 H1 ∧ Sim X.K S1 H1 h1 ∧ RepS X.K S1 H1 σ1 s1 ∧ I n s1 h1, ⟨n, S, h, s, Fut.refl, m, rs, i0⟩, ?_⟩
  rintro n σ1 H1 ⟨S1, h1, s1, f1, m1, r1, i1⟩
  refine ⟨S1, h1, s1, _, D.ex, m1, r1, lk.ex.fut f1, step n s1 h1 i1, fun S2 H2 h2 d f2 m2 q2 => ?_⟩
  cases d with
  | true =>
    rw [if_pos rfl] at q2 ⊢
    have nxt : PSl X.K S2 H2 (fun s' h' => ∃ n', n' < n ∧ I n' s' h') (fun σ' H' => ∃ n', n' < n ∧ ∃ S1 h1 s1, Fut S H S1 H' ∧ Sim X.K S1 H' h1 ∧ RepS X.K S1 H' σ' s1 ∧ I n' s1 h1) := fun S3 H3 h3 σ3 s3 f3 m3 r3 ⟨n', hn, i3⟩ => ⟨n', hn, S3, h3, s3, (f1.trans f2).trans f3, m3, r3, i3⟩
    exact ⟨_, fun σ' H' q => q, S2, h2, s1, { D with nx := fun s' h' => ∃ n', n' < n ∧ I n' s' h', ct := fun s' h' => ∃ n', n' < n ∧ I n' s' h', bk := D.nx }, m2, r1.fut f2, { nx := nxt, rt := lk.rt.fut (f1.trans f2), bk := lk.nx.fut (f1.trans f2), ct := nxt, ex := lk.ex.fut (f1.trans f2) }, q2⟩
  | false =>
    rw [if_neg Bool.false_ne_true] at q2 ⊢
    exact lk.nx S2 H2 h2 σ1 s1 (f1.trans f2) m2 (r1.fut f2) q2
def ForK (ts : List T) (stay : Hq → Prop) (g : GM) (b : SM) (D : En) (s : Sl) (h1 : Hq) : Prop := ∃ I : Nat → SK, I 0 s h1 ∧ ∀ i s h, i ≤ ts.length → I i s h → stay h ∧ match ts[i]? with
  | none => D.nx s h
  | some t => g t s h (fun s2 h2 => b { D with nx := I (i + 1), ct := I (i + 1), bk := D.nx } s2 h2) D.ex
def sFor (src : IM) (g : GM) (b : SM) : SM := fun D s h => src s h (fun ts stay h1 => ForK ts stay g b D s h1) D.ex
theorem js_for {tg iter : Expr} {body : List Stmt} {src : IM} {g : GM} {b : SM} {pos : Pos} (hp : PassesOwn (model X.prog X.w) X.A X.env X.xe) (hc : X.calm = true) (hi : JI X W tg iter src) (hg : JG X W tg g) (hb : JSs X W body b) (hs : ∀ x, foldedSetIterable iter X.env x = pure x := by intro _; rfl) :
    JS X W (.For tg iter body [] pos) (sFor src g b) := PS.wk (ps_for hp hc hi hg hb hs) fun D' σ H ⟨S, h, s, D, m, rs, lk, hm⟩ => by
  refine ⟨S, h, s, _, D.ex, m, rs, lk.ex, hm, fun S1 H1 h1 J ts stay f1 m1 it q => ?_⟩
  obtain ⟨I, i0, step⟩ := q
  refine ⟨fun i n σ2 H2 => n = ts.length - i ∧ i ≤ ts.length ∧ ∃ S2 h2 s2, Fut S1 H1 S2 H2 ∧ Sim X.K S2 H2 h2 ∧ RepS X.K S2 H2 σ2 s2 ∧ I i s2 h2, ⟨ts.length, by simp, Nat.zero_le _, S1, h1, s, Fut.refl, m1, rs.fut f1, i0⟩, ?_⟩
  rintro i n σ2 H2 ⟨en, hi, S2, h2, s2, f2, m2, r2, i2⟩
  obtain ⟨st, q2⟩ := step i s2 h2 hi i2
  obtain ⟨go, stop⟩ := it S2 H2 h2 f2.fu m2 st
  cases e : ts[i]? with
  | none =>
    rw [e] at q2
    have hl : i = ts.length := Nat.le_antisymm hi (List.getElem?_eq_none_iff.mp e)
    exact .inl ⟨by rw [hl]; exact stop, lk.nx S2 H2 h2 σ2 s2 (f1.trans f2) m2 r2 q2⟩
  | some t =>
    rw [e] at q2
    have hl : i < ts.length := (List.getElem?_eq_some_iff.mp e).1
    obtain ⟨g1, g2⟩ := go i t e
    refine .inr ⟨g1, fun σ' H' => ∃ S3 h3 s3, Fut S1 H1 S3 H' ∧ Sim X.K S3 H' h3 ∧ RepS X.K S3 H' σ' s3 ∧ I (i + 1) s3 h3, fun σ' H' q => ⟨ts.length - (i + 1), by omega, rfl, hl, q⟩, fun x H3 y => ?_⟩
    obtain ⟨S3, f3, m3, r3⟩ := g2 x H3 y
    refine ⟨S3, h2, s2, t, _, D.ex, m3, r2.fut f3, r3, lk.ex.fut ((f1.trans f2).trans f3), q2, fun S4 H4 h4 σ4 s4 f4 m4 r4 q4 => ?_⟩
    have nxt : PSl X.K S4 H4 (I (i + 1)) (fun σ' H' => ∃ S3 h3 s3, Fut S1 H1 S3 H' ∧ Sim X.K S3 H' h3 ∧ RepS X.K S3 H' σ' s3 ∧ I (i + 1) s3 h3) := fun S5 H5 h5 σ5 s5 f5 m5 r5 q5 => ⟨S5, h5, s5, ((f2.trans f3).trans f4).trans f5, m5, r5, q5⟩
    have fa := ((f1.trans f2).trans f3).trans f4
    exact ⟨S4, h4, s4, { D with nx := I (i + 1), ct := I (i + 1), bk := D.nx }, m4, r4, { nx := nxt, rt := lk.rt.fut fa, bk := lk.nx.fut fa, ct := nxt, ex := lk.ex.fut fa }, q4⟩

def iSeq (a : EM) : IM := fun s h Q E => a s h (fun x h1 => match x with
  | .lst ts => Q ts (fun _ => True) h1
  | .scr ns => Q (ns.map T.int) (fun _ => True) h1
  | .ref p => match h1 p with
    | some (.lst ts) => Q ts (fun h2 => h2 p = some (.lst ts)) h1
    | _ => False
  | _ => False) E
theorem seq_it {a : Addr} {vs : List V} {ts : List T} {stay : Hq → Prop} (hl : ∀ S1 H1 h1, Fu S H S1 H1 → Sim K S1 H1 h1 → stay h1 → SqL K H1 a vs) (r : ∀ S1 H1 h1, Fu S H S1 H1 → Sim K S1 H1 h1 → stay h1 → RepL K S1 H1 vs ts) : ItRep K S H (Itl K a) ts stay := fun S1 H1 h1 f1 m1 st => by
  have q := hl S1 H1 h1 f1 m1 st
  have r1 := r S1 H1 h1 f1 m1 st
  refine ⟨fun i t e => ?_, ⟨vs, q, by rw [r1.length]; exact Nat.le_refl _⟩⟩
  obtain ⟨v, ev, rv⟩ := r1.get e
  refine ⟨⟨vs, v, q, ev⟩, fun x H2 y => ?_⟩
  obtain ⟨rfl, y⟩ := y
  have ex : x = v := Option.some.inj ((y vs q).symm.trans ev)
  subst ex
  exact ⟨S1, Fut.refl, m1, rv⟩
theorem ji_seq {tg e : Expr} {a : EM} (ha : JE X W e a) : JI X W tg e (iSeq a) := PI.wk (pi_list ha) fun σ H R ⟨S, h, s, Q, E, m, rs, lk, hm, pk⟩ =>
  ⟨S, h, s, _, E, m, rs, lk, hm, fun S1 H1 h1 v x f1 m1 r1 q1 => by
    split at q1
    · cases r1 with
      | lst s hh r => exact ⟨_, rfl, ⟨_, SqL.of hh⟩, pk S1 H1 h1 _ _ _ f1 m1 (seq_it (fun S2 H2 h2 f2 m2 _ => SqL.of ((f2.kp _ s).trans hh)) fun S2 H2 h2 f2 m2 _ => r.fu f2) q1⟩
    · obtain ⟨a, rfl, hh, hf⟩ := r1.scr_sq
      exact ⟨_, rfl, ⟨_, hh⟩, pk S1 H1 h1 _ _ _ f1 m1 (seq_it (fun S2 H2 h2 f2 m2 _ => hf S2 H2 f2) fun S2 H2 h2 f2 m2 _ => RepL.of_ints _) q1⟩
    · split at q1
      · rename_i p ts e
        cases r1
        obtain ⟨vs, e1, r⟩ := ref_lst m1 e
        refine ⟨_, rfl, ⟨_, SqL.of e1⟩, pk S1 H1 h1 _ ts _ f1 m1 ?_ q1⟩
        intro S2 H2 h2 f2 m2 st
        obtain ⟨ws, e2, r2⟩ := ref_lst m2 st
        refine ⟨fun i t e => ?_, ⟨ws, SqL.of e2, by rw [r2.length]; exact Nat.le_refl _⟩⟩
        obtain ⟨v, ev, rv⟩ := r2.get e
        refine ⟨⟨ws, v, SqL.of e2, ev⟩, fun x H3 y => ?_⟩
        obtain ⟨rfl, y⟩ := y
        have ex : x = v := Option.some.inj ((y ws (SqL.of e2)).symm.trans ev)
        subst ex
        exact ⟨S2, Fut.refl, m2, rv⟩
      · exact q1.elim
    · exact q1.elim⟩
def rng (lo : Int) (n : Nat) : List T := (List.range n).map fun (i : Nat) => T.int (lo + i)
theorem rng_it {lo : Int} {n : Nat} : ItRep K S H (Itr lo n) (rng lo n) (fun _ => True) := fun S1 H1 h1 f1 m1 st => by
  refine ⟨fun i t e => ?_, by show n ≤ (rng lo n).length; unfold rng; simp⟩
  have hi : i < n := by
    have := (List.getElem?_eq_some_iff.mp e).1
    unfold rng at this
    simpa using this
  have et : t = T.int (lo + i) := by
    unfold rng at e
    rw [List.getElem?_map, List.getElem?_range hi] at e
    exact (Option.some.inj e).symm
  subst et
  refine ⟨hi, fun x H2 y => ?_⟩
  obtain ⟨rfl, rfl⟩ := y
  exact ⟨S1, Fut.refl, m1, .int _⟩
def iRange1 (a : AM) : IM := fun s h Q E => a s h (fun ts h1 => match ts with
  | [.int j] => -1000000 ≤ j ∧ j ≤ 1000000 ∧ Q (rng 0 j.toNat) (fun _ => True) h1
  | _ => False) E
def iRange2 (a : AM) : IM := fun s h Q E => a s h (fun ts h1 => match ts with
  | [.int i, .int j] => (-(2 ^ 62) ≤ i ∧ i < 2 ^ 62 ∧ -(2 ^ 62) ≤ j ∧ j < 2 ^ 62) ∧ Q (rng i (j - i).toNat) (fun _ => True) h1
  | _ => False) E
theorem ji_range1 {tg e : Expr} {a : AM} {p pos : Pos} (hg : Gl X "range") (hm : X.mg "range" = none) (ha : JA X W [e] a) (hs : starEach [e] X.env = [(false, eval e X.env)] := by rfl) : JI X W tg (.Call (.Name "range" p) [e] [] pos) (iRange1 a) := PI.wk (pi_range1 hg hm ha hs) fun σ H R ⟨S, h, s, Q, E, m, rs, lk, hm, pk⟩ =>
  ⟨S, h, s, _, E, m, rs, lk, hm, fun S1 H1 h1 vs ts f1 m1 r1 q1 => by
    split at q1
    · cases r1 with
      | cons ra rn =>
        cases rn; cases ra
        rename_i j
        obtain ⟨a1, a2, q1⟩ := q1
        exact ⟨j, rfl, by omega, by omega, pk S1 H1 h1 _ _ _ f1 m1 rng_it q1⟩
    · exact q1.elim⟩
theorem ji_range2 {tg e e2 : Expr} {a : AM} {p pos : Pos} (hg : Gl X "range") (hm : X.mg "range" = none) (ha : JA X W [e, e2] a) (hs : starEach [e, e2] X.env = [(false, eval e X.env), (false, eval e2 X.env)] := by rfl) (hs2 : starEach [e2] X.env = [(false, eval e2 X.env)] := by rfl) :
    JI X W tg (.Call (.Name "range" p) [e, e2] [] pos) (iRange2 a) := PI.wk (pi_range2 hg hm ha hs hs2) fun σ H R ⟨S, h, s, Q, E, m, rs, lk, hm, pk⟩ =>
  ⟨S, h, s, _, E, m, rs, lk, hm, fun S1 H1 h1 vs ts f1 m1 r1 q1 => by
    split at q1
    · cases r1 with
      | cons ra rn => cases rn with
        | cons rb rn =>
          cases rn; cases ra; cases rb
          exact ⟨_, _, rfl, q1.1, pk S1 H1 h1 _ _ _ f1 m1 rng_it q1.2⟩
    · exact q1.elim⟩
def enumT (ts : List T) : List T := ts.mapIdx fun (i : Nat) t => T.tup [T.int i, t]
def iEnum (a : AM) : IM := fun s h Q E => a s h (fun xs h1 => match xs with
  | [.lst ts] => Q (enumT ts) (fun _ => True) h1
  | [.ref p] => match h1 p with
    | some (.lst ts) => Q (enumT ts) (fun h2 => h2 p = some (.lst ts)) h1
    | _ => False
  | _ => False) E
theorem enum_it {a : Addr} {ts : List T} {stay : Hq → Prop} (hl : ∀ S1 H1 h1, Fu S H S1 H1 → Sim K S1 H1 h1 → stay h1 → ∃ vs, SqL K H1 a vs ∧ RepL K S1 H1 vs ts) : ItRep K S H (Ite K a) (enumT ts) stay := fun S1 H1 h1 f1 m1 st => by
  obtain ⟨vs, q, r1⟩ := hl S1 H1 h1 f1 m1 st
  refine ⟨fun i t e => ?_, ⟨vs, q, by rw [r1.length]; unfold enumT; simp⟩⟩
  unfold enumT at e
  rw [List.getElem?_mapIdx] at e
  cases z : ts[i]? with
  | none => rw [z] at e; cases e
  | some y =>
    rw [z] at e
    cases e
    obtain ⟨v, ev, rv⟩ := r1.get z
    refine ⟨⟨vs, v, q, ev⟩, fun x H2 y => ?_⟩
    obtain ⟨p, w, rfl, np, rfl, yy⟩ := y
    have ex : w = v := Option.some.inj ((yy vs q).symm.trans ev)
    subst ex
    obtain ⟨m2, f2⟩ := m1.frozen (u := .tup [.int (i : Nat), w]) np
    exact ⟨_, f2, m2, .tup (.inr rfl) upd_same (.cons (.int _) (.cons (rv.fut f2) .nil))⟩
theorem ji_enum {elts : List Expr} {kk : Nat} {tpos : Pos} {e : Expr} {a : AM} {p pos : Pos} (hg : Gl X "enumerate") (hm : X.mg "enumerate" = none) (ha : JA X W [e] a) (hs : starEach [e] X.env = [(false, eval e X.env)] := by rfl) : JI X W (.Tuple elts kk tpos) (.Call (.Name "enumerate" p) [e] [] pos) (iEnum a) := PI.wk (pi_enum hg hm ha hs) fun σ H R ⟨S, h, s, Q, E, m, rs, lk, hm, pk⟩ =>
  ⟨S, h, s, _, E, m, rs, lk, hm, fun S1 H1 h1 vs ts f1 m1 r1 q1 => by
    split at q1
    · cases r1 with
      | cons ra rn =>
        cases rn
        cases ra with
        | lst s hh r => exact ⟨_, _, rfl, SqL.of hh, pk S1 H1 h1 _ _ _ f1 m1 (enum_it fun S2 H2 h2 f2 m2 _ => ⟨_, SqL.of ((f2.kp _ s).trans hh), r.fu f2⟩) q1⟩
    · cases r1 with
      | cons ra rn =>
        cases rn
        split at q1
        · rename_i ts e
          cases ra
          obtain ⟨vs, e1, r⟩ := ref_lst m1 e
          refine ⟨_, _, rfl, SqL.of e1, pk S1 H1 h1 _ _ _ f1 m1 (enum_it fun S2 H2 h2 f2 m2 st => ?_) q1⟩
          obtain ⟨ws, e2, r2⟩ := ref_lst m2 st
          exact ⟨ws, SqL.of e2, r2⟩
        · exact q1.elim
    · exact q1.elim⟩
end
end TL

namespace TL
open PySem L2
theorem ne_mem {α : Type} {i k : α} {own : List α} (hi : i ∈ own) (hk : k ∉ own) : i ≠ k := fun z => hk (z ▸ hi)
section
variable {X : Cx} {W : WX} {K : PySem.W.Frag} {S : Fz} {H : Hp} {h : Hq}
def wipeT (s : Sl) : List Nat → Sl
  | [] => s
  | v :: vs => (wipeT s vs).set v none
theorem wipeT_some {s : Sl} {i : Nat} {t : T} : ∀ {vs : List Nat}, (wipeT s vs)[i]? = some (some t) → s[i]? = some (some t) ∧ i ∉ vs
  | [], h => ⟨h, by simp⟩
  | v :: vs, h => by
    unfold wipeT at h
    by_cases c : v = i
    · subst c
      rw [List.getElem?_set] at h
      simp only [if_true] at h
      split at h
      · cases h
      · cases h
    · rw [List.getElem?_set_ne c] at h
      obtain ⟨a, b⟩ := wipeT_some h
      exact ⟨a, by simp only [List.mem_cons, not_or]; exact ⟨fun z => c z.symm, b⟩⟩
theorem wipeT_len (s : Sl) : ∀ vs : List Nat, (wipeT s vs).length = s.length
  | [] => rfl
  | v :: vs => by unfold wipeT; rw [List.length_set, wipeT_len s vs]
theorem wipe_get (σ : L2.St) {k : Nat} : ∀ {vs : List Nat}, k ∉ vs → (wipe σ vs)[k]? = σ[k]?
  | [], _ => rfl
  | v :: vs, h => by
    unfold wipe
    simp only [List.mem_cons, not_or] at h
    rw [List.getElem?_set_ne (fun z => h.1 z.symm)]
    exact wipe_get σ h.2
theorem wipe_in (σ : L2.St) {k : Nat} : ∀ {vs : List Nat}, k ∈ vs → k < σ.length → (wipe σ vs)[k]? = some none
  | v :: vs, h, hl => by
    unfold wipe
    by_cases c : v = k
    · subst c
      rw [List.getElem?_set_self (by rw [wipe_length]; exact hl)]
    · rw [List.getElem?_set_ne c]
      rcases List.mem_cons.mp h with z | z
      · exact absurd z.symm c
      · exact wipe_in σ z hl
theorem wipe_same {σ σ2 : L2.St} {vs : List Nat} (hl : σ2.length = σ.length) (e : ∀ k, k ∉ vs → σ2[k]? = σ[k]?) : wipe σ2 vs = wipe σ vs := by
  apply List.ext_getElem?
  intro k
  by_cases c : k ∈ vs
  · by_cases l : k < σ.length
    · rw [wipe_in σ c l, wipe_in σ2 c (by rw [hl]; exact l)]
    · rw [List.getElem?_eq_none_iff.mpr (by rw [wipe_length]; omega), List.getElem?_eq_none_iff.mpr (by rw [wipe_length]; omega)]
  · rw [wipe_get σ c, wipe_get σ2 c, e k c]
theorem RepS.wipe {σ : L2.St} {s : Sl} (r : RepS K S H σ s) (vs : List Nat) : RepS K S H (wipe σ vs) (wipeT s vs) := ⟨by rw [wipe_length, wipeT_len, r.len], fun i t e => by
  obtain ⟨a, b⟩ := wipeT_some e
  obtain ⟨v, h1, h2⟩ := r.at_ i t a
  exact ⟨v, by rw [wipe_get σ b]; exact h1, h2⟩⟩
def CTg (K : PySem.W.Frag) (g' : TG) (g : T → Sl → Option Sl) (own : List Nat) : Prop := ∀ S H h v t σ s s2 Q', Sim K S H h → RepS K S H σ s → Rep K S H v t → g t s = some s2 →
  (∀ σ2, RepS K S H σ2 s2 → wipe σ2 own = wipe σ own → Q' σ2 H) → g' v (wipe σ own) H Q'
def cN (i : Nat) (own : List Nat) : T → Sl → Option Sl := fun t s => some ((wipeT s own).set i (some t))
theorem ct_name {i : Nat} {own : List Nat} (hi : i ∈ own) : CTg K (L2.gName i) (cN i own) own := fun S H h v t σ s s2 Q' m rs r e q => by
  cases e
  refine q _ ((rs.wipe own).set r i) ?_
  refine wipe_same (by rw [List.length_set, wipe_length]) fun k hk => ?_
  rw [List.getElem?_set_ne (ne_mem hi hk), wipe_get σ hk]
def cN2 (i j : Nat) (own : List Nat) : T → Sl → Option Sl := fun t s => match t with
  | .tup [a, b] => some (((wipeT s own).set i (some a)).set j (some b))
  | _ => none
theorem ct_name2 {i j : Nat} {own : List Nat} (hi : i ∈ own) (hj : j ∈ own) : CTg K (L2.gTup K 2 (L2.gCons (L2.gName i) (L2.gCons (L2.gName j) L2.gNil))) (cN2 i j own) own := fun S H h v t σ s s2 Q' m rs r e q => by
  unfold cN2 at e
  split at e
  · cases e
    have go : ∀ {a : Addr} {vs : List V} {x y : T}, SqT K H a vs → RepL K S H vs [x, y] → (∀ σ2, RepS K S H σ2 (((wipeT s own).set i (some x)).set j (some y)) → wipe σ2 own = wipe σ own → Q' σ2 H) → L2.gTup K 2 (L2.gCons (L2.gName i) (L2.gCons (L2.gName j) L2.gNil)) (.ref a) (wipe σ own) H Q' := fun {a vs x y} hq rl q => by
      cases rl with
      | cons ra rl => cases rl with
        | cons rb rl =>
          cases rl
          refine ⟨a, _, rfl, hq, rfl, _, _, rfl, _, _, rfl, rfl, q _ (((rs.wipe own).set ra i).set rb j) ?_⟩
          refine wipe_same (by rw [List.length_set, List.length_set, wipe_length]) fun k hk => ?_
          rw [List.getElem?_set_ne (ne_mem hj hk), List.getElem?_set_ne (ne_mem hi hk), wipe_get σ hk]
    cases r with
    | tup s hh r => exact go (SqT.of hh) r q
    | tupK hh r => exact go (.inr hh) r q
  · cases e
theorem Sim.follow (m : Sim K S H h) {p : Addr} {u : HO} {o : O} (e : h p = none) (n : ¬ S.has p) (hp : H p = some u) (r : RepO K S H u o) : Sim K S H (put h p o) where
  fr := fun a s => by rw [put_ne (neS s n)]; exact m.fr a s
  al := m.al
  dj := m.dj
  ob := fun a o' q => by
    by_cases c : a = p
    · subst c; rw [put_same] at q; cases q; exact ⟨u, hp, r⟩
    · rw [put_ne c] at q; exact m.ob a o' q
abbrev E0 : EX := fun _ _ _ => False
theorem lk0 : LkX K W S H E0 := fun _ _ _ _ _ _ _ _ _ _ _ _ z => z.elim
def LcK (fl : Bool) (ts : List T) (stay : Hq → Prop) (g : T → Sl → Option Sl) (tt : TM) (el : EM) (s : Sl) (h1 : Hq) (Q : TK) : Prop := ∃ I : Nat → List T → Hq → Prop, I 0 [] h1 ∧ ∀ i acc h, i ≤ ts.length → I i acc h → stay h ∧ match ts[i]? with
  | none => mk fl acc h Q
  | some t => acc.length < lim ∧ match g t s with
    | some s2 => tt s2 h (fun b h3 => if b = true then el s2 h3 (fun y h4 => I (i + 1) (acc ++ [y]) h4) E0 else I (i + 1) acc h3) E0
    | none => False
def eLc (fl : Bool) (src : IM) (g : T → Sl → Option Sl) (tt : TM) (el : EM) : EM := fun s h Q E => src s h (fun ts stay h1 => LcK fl ts stay g tt el s h1 Q) E
theorem lift_lc {fl : Bool} {src : IM} {g : T → Sl → Option Sl} {g' : TG} {tt : TM} {el : EM} {own : List Nat} (ct : CTg K g' g own) : ∀ σ H Q, liftE K W (eLc fl src g tt el) σ H Q → tLc (liftI K W src) g' (liftT K W0 tt) (liftE K W0 el) own σ H Q := fun σ H Q' ⟨S, h, s, Q, E, m, rs, lk, hm, pk⟩ => by
  refine ⟨S, h, s, _, E, m, rs, lk, hm, fun S1 H1 h1 J ts stay f1 m1 it q => ?_⟩
  obtain ⟨I, i0, step⟩ := q
  intro D nD
  have nS1 : ¬ S1.has D := m1.nS nD
  let Wd : Nat → Hp → Prop := fun i H2 => ∃ S2 h2 vs acc, Fut S1 H1 S2 H2 ∧ Sim K S2 H2 h2 ∧ H2 D = some (.lst vs) ∧ RepL K S2 H2 vs acc ∧ ¬ S2.has D ∧ h2 D = none ∧ I i acc h2
  refine ⟨fun i n H2 => n = ts.length - i ∧ i ≤ ts.length ∧ Wd i H2, ⟨ts.length, by simp, Nat.zero_le _, S1, h1, [], [], fut_upd nS1, m1.side nD, upd_same, .nil, nS1, m1.free nD, i0⟩, ?_⟩
  rintro i n H2 ⟨en, hi, S2, h2, vs, acc, f2, m2, hD, rD, nS2, nh2, i2⟩
  obtain ⟨st, q2⟩ := step i acc h2 hi i2
  have m2' : Sim K (TL.prot S2 D) H2 h2 := m2.prot nh2 (by rw [hD]; exact fun z => nomatch z) fun z => nS2 (.inl z)
  obtain ⟨go, stop⟩ := it (TL.prot S2 D) H2 h2 ⟨f2.sub, fun a z => f2.kp a (.inl z)⟩ m2' st
  cases e : ts[i]? with
  | none =>
    rw [e] at q2
    have hl : i = ts.length := Nat.le_antisymm hi (List.getElem?_eq_none_iff.mp e)
    refine .inl ⟨by rw [hl]; exact stop, ?_⟩
    cases fl with
    | true =>
      rw [mk_true] at q2
      have f3 : Fut S2 H2 (TL.plus S2 D) H2 := fut_plus Fut.refl
      exact pk _ H2 h2 _ _ ((f1.trans f2).trans f3) (m2.plus nh2 (by rw [hD]; exact fun z => nomatch z) fun z => nS2 (.inr z)) (.lst (.inr rfl) hD (rD.fut f3)) q2
    | false =>
      rw [mk_false] at q2
      exact pk S2 H2 _ _ _ (f1.trans f2) (m2.follow (o := .lst acc) nh2 nS2 hD ⟨vs, rfl, rD⟩) (.ref D) (q2 D nh2)
  | some t =>
    rw [e] at q2
    obtain ⟨la, q2⟩ := q2
    have hl : i < ts.length := (List.getElem?_eq_some_iff.mp e).1
    obtain ⟨g1, g2⟩ := go i t e
    refine .inr ⟨g1, Wd (i + 1), fun H' w => ⟨ts.length - (i + 1), by omega, rfl, hl, w⟩, fun x H3 y => ?_⟩
    obtain ⟨S3, f3, m3, r3⟩ := g2 x H3 y
    have u2 : Fu S H (TL.prot S2 D) H2 := ⟨fun a z => f2.sub a (f1.sub a z), fun a z => (f1.trans f2).kp a (.inl z)⟩
    have rs3 : RepS K S3 H3 σ s := rs.fu (u2.trans f3.fu)
    split at q2
    · rename_i s2 eg
      refine ct S3 H3 h2 x t σ s s2 _ m3 rs3 r3 eg fun σ2 r2 ew => ⟨ew, ?_⟩
      refine ⟨S3, h2, s2, _, E0, m3, r2, lk0, q2, fun S4 H4 h4 b f4 m4 q4 => ?_⟩
      have back : ∀ {S5 : Fz} {H5 : Hp} {h5 : Hq} {ws : List V} {acc' : List T}, Fut (TL.prot S2 D) H2 S5 H5 → Sim K S5 H5 h5 → RepL K S5 H5 ws acc' → I (i + 1) acc' h5 → Wd (i + 1) (upd H5 D (.lst ws)) := fun {S5 H5 h5 ws acc'} f5 m5 r5 q5 => by
        have pD : S5.p D := by rw [f5.pe]; exact .inr rfl
        have nD5 : ¬ S5.s D := fun z => m5.dj D z pD
        have n6 : ¬ (TL.unp S2 S5).has D := fun z => z.elim nD5 fun z => nS2 (.inr z)
        refine ⟨TL.unp S2 S5, h5, ws, acc', ⟨fun a z => f5.sub a (f2.sub a z), fun a z => ?_, f2.pe⟩, (m5.unp f5.pe).side' (m5.fr D (.inr pD)) n6, upd_same, ?_, n6, m5.fr D (.inr pD), q5⟩
        · rw [upd_ne (neS z nS1), f5.kp a (z.elim (fun w => .inl (f2.sub a w)) fun w => .inr (.inl (by rw [f2.pe]; exact w))), f2.kp a z]
        · exact r5.fu (S := S5) (S1 := TL.unp S2 S5) ⟨fun a z => z, fun a z => upd_ne (show a ≠ D from fun w => nD5 (by rw [← w]; exact z))⟩
      have old : ∀ {S5 : Fz} {H5 : Hp}, Fut (TL.prot S2 D) H2 S5 H5 → H5 D = some (.lst vs) ∧ RepL K S5 H5 vs acc := fun {S5 H5} f5 => ⟨(f5.kp D (.inr (.inr rfl))).trans hD, RepL.fu (S := S2) ⟨f5.sub, fun a z => f5.kp a (.inl z)⟩ rD⟩
      cases b with
      | true =>
        rw [if_pos rfl] at q4
        refine iteT ?_
        refine ⟨S4, h4, s2, _, E0, m4, r2.fut f4, lk0, q4, fun S5 H5 h5 v y f5 m5 r5 q5 => ?_⟩
        have f25 := (f3.trans f4).trans f5
        obtain ⟨hD5, rD5⟩ := old f25
        exact ⟨vs, hD5, lim_lt (by rw [rD.length]; exact Nat.le_of_lt la), back f25 m5 (rD5.append (.cons r5 .nil)) q5⟩
      | false =>
        rw [if_neg Bool.false_ne_true] at q4
        refine iteF ?_
        have f24 := f3.trans f4
        obtain ⟨hD4, rD4⟩ := old f24
        have w := back f24 m4 rD4 q4
        have eu : upd H4 D (.lst vs) = H4 := by
          funext a
          unfold upd
          split
          · rename_i z; rw [z, hD4]
          · rfl
        rw [eu] at w
        exact w
    · exact q2.elim
theorem j_lc (fl : Bool) {elt tg iter : Expr} {ifs : List Expr} {scope : Scope} {own : List (Str × Nat)} {pos : Pos} {src : IM} {g : T → Sl → Option Sl} {g' : TG} {tt : TM} {el : EM} (hc : X.calm = true) (hN : X.N.Nodup) (ct : CTg X.K g' g (own.map (·.2))) (hi : JI X W tg iter src) (ok : BlkOk X.N X.env.scope scope own)
    (hg : ∀ (s : Shared) (H : Hp) (C : Addr) (cl : List (Str × Addr)) (fp : List Addr), PG (X.blk s H scope (compEnvC scope cl C X.env) fp) tg g')
    (ht : ∀ (s : Shared) (H : Hp) (C : Addr) (cl : List (Str × Addr)) (fp : List Addr), PTs (X.blk s H scope (compEnvC scope cl C X.env) fp) ifs (liftT X.K W0 tt))
    (he : ∀ (s : Shared) (H : Hp) (C : Addr) (cl : List (Str × Addr)) (fp : List Addr), JE (X.blk s H scope (compEnvC scope cl C X.env) fp) W0 elt el) (hs : ∀ x, foldedSetIterable iter X.env x = pure x := by intro _; rfl) :
    JE X W (.ListComp elt [⟨tg, iter, ifs, 0⟩] scope pos) (eLc fl src g tt el) := PE.wk (pe_lc (te := liftE X.K W0 el) hc hN hi ok hg ht he hs) (lift_lc ct)
def tYes : TM := fun _ h Q _ => Q true h
theorem jts_nil : PTs X [] (liftT K W tYes) := ⟨fun pins s σ H Q I hw => pts_nil.run pins s σ H Q I (by
  obtain ⟨S, h, t, Q', E, m, rs, lk, hm, pk⟩ := hw
  exact pk S H h true Fut.refl m hm)⟩
theorem jts_one {c : Expr} {m : TM} (h : JT X W c m) : PTs X [c] (liftT X.K W m) := pts_one h
theorem js_setLc (fl : Bool) {i : Nat} {y : Str} {py : Pos} {elt tg iter : Expr} {ifs : List Expr} {scope : Scope} {own : List (Str × Nat)} {pos spos : Pos} {src : IM} {g : T → Sl → Option Sl} {g' : TG} {tt : TM} {el : EM} (hc : X.calm = true) (hN : X.N.Nodup) (hy : X.N[i]? = some y) (hyl : X.env.scope.names.lookup y = some .local)
    (hsw : swapsWith (.ListComp elt [⟨tg, iter, ifs, 0⟩] scope pos) (some (.Name y py)) spos.line X.env = pure true) (ct : CTg X.K g' g (own.map (·.2))) (hi : JI X W tg iter src) (ok : BlkOk X.N X.env.scope scope own)
    (hg : ∀ (s : Shared) (H : Hp) (C : Addr) (cl : List (Str × Addr)) (fp : List Addr), PG (X.blk s H scope (compEnvC scope cl C X.env) fp) tg g')
    (ht : ∀ (s : Shared) (H : Hp) (C : Addr) (cl : List (Str × Addr)) (fp : List Addr), PTs (X.blk s H scope (compEnvC scope cl C X.env) fp) ifs (liftT X.K W0 tt))
    (he : ∀ (s : Shared) (H : Hp) (C : Addr) (cl : List (Str × Addr)) (fp : List Addr), JE (X.blk s H scope (compEnvC scope cl C X.env) fp) W0 elt el) (hs : ∀ x, foldedSetIterable iter X.env x = pure x := by intro _; rfl) :
    JS X W (.Assign [.Name y py] (.ListComp elt [⟨tg, iter, ifs, 0⟩] scope pos) spos) (sAsg (eLc fl src g tt el) (gN i)) := PS.wk (ps_setLc (te := liftE X.K W0 el) hc hN hy hyl hsw hi ok hg ht he hs) fun D' σ H ⟨S, h, s, D, m, rs, lk, hm⟩ =>
  lift_lc ct σ H _ ⟨S, h, s, _, D.ex, m, rs, lk.ex, hm, fun S1 H1 h1 v x f1 m1 r1 q1 => lk.nx S1 H1 h1 _ _ f1 m1 ((rs.fut f1).set r1 i) q1⟩

def startT (N : Nat) (ts : List T) : Sl := ts.map some ++ List.replicate (N - ts.length) none
def Sub (h2 h1 : Hq) : Prop := ∀ a o, h2 a = some o → h1 a = some o
def dn (Q : TK) : TK := fun u h1 => ∃ h2, Sub h2 h1 ∧ Q u h2
def dnX (E : Ex → Hq → Prop) : Ex → Hq → Prop := fun x h1 => ∃ h2, Sub h2 h1 ∧ E x h2
theorem dn_self {Q : TK} {u : T} {h : Hq} (q : Q u h) : dn Q u h := ⟨h, fun _ _ e => e, q⟩
theorem dnX_self {E : Ex → Hq → Prop} {u : Ex} {h : Hq} (q : E u h) : dnX E u h := ⟨h, fun _ _ e => e, q⟩
theorem sub_put {h : Hq} {p : Addr} {o : O} (e : h p = none) : Sub h (put h p o) := fun a u q => by
  rw [put_ne (fun z => by rw [z, e] at q; cases q)]; exact q
theorem Sub.put {h1 h2 : Hq} (s : Sub h2 h1) {p : Addr} {o : O} : Sub (TL.put h2 p o) (TL.put h1 p o) := fun a u q => by
  by_cases c : a = p
  · subst c; rw [put_same] at q ⊢; exact q
  · rw [put_ne c] at q ⊢; exact s a u q
def ends (Q : TK) (E : Ex → Hq → Prop) : En := { nx := fun _ h => dn Q .non h, rt := dn Q, ex := fun x _ h => dnX E x h }
theorem fn_ok {P : Program} {w : World} {mg : Str → Option Value} {base : Heap} {x qual : Str} {st : Stmt} {f : Addr} {fd : FuncData} {N ps : List Str} {k : Nat} {c : Con} {B : SM} (F : Fun K x qual st f fd) (sc : FnScope N ps (defScope st)) (hl : ps.length ≤ N.length)
    (J : ∀ (cdv : Value) (A : Around) (outer : List Env) (s : Shared) (H : Hp) (E : XK), Room k (A.deeper (PyProof.Rows.envOfC qual (defScope st) s.heap.objs.size f cdv)) →
      JSs (cxOf (L2.CX P w) P w K mg base N qual (defScope st) f cdv A outer s H E) (fun cls d _ H => E cls d H) (defBody st) B)
    (pl : ∀ ts h Q E, ts.length = ps.length → c ts h Q E → B (ends Q E) (startT N.length ts) h) : FnOk P w K mg base (L2.CX P w) (k + 1) f fd ps (liftSp K ps.length c) := by
  refine F.okX sc (fun vs H Q E ⟨S, h, ts, Q', E', m, r, l, _⟩ => r.length.trans l) fun cdv A outer s H vs Q E hr ⟨S, h, ts, Q', E', m, r, l, q, pk, px⟩ => ⟨_, J cdv A outer s H E hr, ?_⟩
  refine ⟨S, h, startT N.length ts, ends Q' E', m, ?_, ?_, pl ts h Q' E' l q⟩
  · have := RepS.start (N := N) r (by rw [r.length, l]; exact hl)
    exact this
  · exact { nx := fun S1 H1 h1 σ1 s1 f1 m1 r1 ⟨h2, z, q1⟩ => pk S1 H1 h2 _ _ f1 (m1.sub z) .non q1, rt := fun S1 H1 h1 v u f1 m1 r1 ⟨h2, z, q1⟩ => pk S1 H1 h2 _ _ f1 (m1.sub z) r1 q1, bk := fun _ _ _ _ _ _ _ _ z => z.elim, ct := fun _ _ _ _ _ _ _ _ z => z.elim,
            ex := fun S1 H1 h1 σ1 s1 x cls d f1 m1 r1 rx ⟨h2, z, q1⟩ => px S1 H1 h2 x cls d f1 (m1.sub z) rx q1 }
theorem fn_wk {P : Program} {w : World} {mg : Str → Option Value} {base : Heap} {CX : CXT} {f : Addr} {fd : FuncData} {ps : List Str} {k : Nat} {sp sp' : Sp} (F : FnOk P w K mg base CX k f fd ps sp) (hs : ∀ vs H Q E, sp' vs H Q E → sp vs H Q E) : FnOk P w K mg base CX k f fd ps sp' :=
  ⟨fun vs H Q E q => F.len vs H Q E (hs vs H Q E q), fun A outer s H args us vs Q E hr e0 b v q => F.run A outer s H args us vs Q E hr e0 b v (hs vs H Q E q)⟩
end
end TL

namespace TL
open PySem L2
inductive Kd where | non | bl | int | str | tup | lst
  deriving DecidableEq
def Kd.nm : Kd → String
  | .non => "NoneType" | .bl => "bool" | .int => "int" | .str => "str" | .tup => "tuple" | .lst => "list"
def kdOf (h : Hq) : T → Option Kd
  | .non => some .non
  | .bl _ => some .bl
  | .int _ => some .int
  | .str _ => some .str
  | .tup _ => some .tup
  | .lst _ => some .lst
  | .ref a => match h a with
    | some (.lst _) => some .lst
    | _ => none
  | _ => none
def isK (k c : Kd) : Bool := decide (k = c) || (decide (k = .bl) && decide (c = .int))
def kdN (n : String) : Option Kd := if n = "int" then some .int else if n = "bool" then some .bl else if n = "str" then some .str else if n = "tuple" then some .tup else if n = "list" then some .lst else none
theorem kit_all : ∀ k c : Kd, c ≠ .non → kitB k.nm c.nm = some (isK k c) := by
  intro k c h
  cases k <;> cases c <;> first | exact absurd rfl h | decide +kernel
theorem kdN_nm {n : String} {c : Kd} (e : kdN n = some c) : n = c.nm ∧ c ≠ .non := by
  unfold kdN at e
  repeat' split at e
  all_goals (cases e; try exact ⟨by assumption, by decide⟩)
section
variable {X : Cx} {W : WX} {K : PySem.W.Frag} {S : Fz} {H : Hp} {h : Hq}
theorem kd_ty (m : Sim K S H h) {v : V} {x : T} {k : Kd} (r : Rep K S H v x) (e : kdOf h x = some k) : TyX K H v (.type k.nm) := by
  cases r with
  | non => cases e; exact .base .non
  | bl b => cases e; exact .base (.bl b)
  | int i => cases e; exact .base (.int i)
  | str x => cases e; exact .base (.str x)
  | tup s hh r => cases e; exact .base (.tup hh)
  | tupK hh r =>
    cases e
    obtain ⟨o, its, n, h1, h2, h3, h4, h5⟩ := hh
    exact .kTuple h1 h2
  | lst s hh r => cases e; exact .base (.lst hh)
  | ref a =>
    simp only [kdOf] at e
    split at e
    · rename_i ts z
      cases e
      obtain ⟨vs, e1, _⟩ := ref_lst m z
      exact .base (.lst e1)
    · cases e
  | ins _ _ _ => cases e
  | ty _ => cases e
  | scr _ _ => cases e
  | scrK _ => cases e
  | exc _ _ _ => cases e
  | exc0 => cases e
  | xob _ _ _ _ _ _ => cases e
def oIsi : RLT := fun xs h Q => match xs with
  | [x, .ty n] => match kdOf h x, kdN n with
    | some k, some c => Q (.bl (isK k c)) h
    | _, _ => False
  | _ => False
theorem c_isi : CP K (rIsi K) oIsi := fun S H h vs xs Q Q' m r q pk => by
  unfold oIsi at q
  split at q
  · cases r with
    | cons r1 rn => cases rn with
      | cons r2 rn =>
        cases rn
        split at q
        · rename_i k c e1 e2
          obtain ⟨rfl, hc⟩ := kdN_nm e2
          cases r2
          exact ⟨_, _, _, _, _, rfl, .ty _, kd_ty m r1 e1, kit_ty (kit_all k c hc), pk S H h _ _ Fut.refl m (.bl _) q⟩
        · exact q.elim
  · exact q.elim

theorem units65 {k : Nat} {A : Around} (r : Room k A) : A.units + 65 < cLine := by have := r.un; omega

def poolOk (a b : Int) : Prop := 0 ≤ a ∧ 0 ≤ b ∧ b < 2147483647
theorem Sim.unpool (m : Sim K S H h) {p : Addr} (e : h p = some .pool) : ∃ a b, poolOk a b ∧ Sim K S H (put h p (.lst [.int a, .int b])) := by
  obtain ⟨u, e1, a, b, e2, o1, o2, o3⟩ := m.ob p _ e
  refine ⟨a, b, ⟨o1, o2, o3⟩, ⟨fun c s => ?_, m.al, m.dj, fun c o q => ?_⟩⟩
  · rw [put_ne (neS s (m.nS' e))]; exact m.fr c s
  · by_cases z : c = p
    · subst z; rw [put_same] at q; cases q; exact ⟨u, e1, _, e2, .cons (.int a) (.cons (.int b) .nil)⟩
    · rw [put_ne z] at q; exact m.ob c o q
theorem Sim.repool {p : Addr} {a b : Int} (m : Sim K S H (put h p (.lst [.int a, .int b]))) (o : poolOk a b) : Sim K S H (put h p .pool) := by
  refine ⟨fun c s => ?_, m.al, m.dj, fun c o' q => ?_⟩
  · have z := m.fr c s
    by_cases y : c = p
    · subst y; rw [put_same] at z; cases z
    · rw [put_ne y] at z ⊢; exact z
  · by_cases z : c = p
    · subst z
      rw [put_same] at q; cases q
      obtain ⟨u, e1, vs, e2, r⟩ := m.ob c (.lst [.int a, .int b]) put_same
      have := RepL.ints (ns := [a, b]) r
      exact ⟨u, e1, a, b, by rw [e2, this]; rfl, o⟩
    · rw [put_ne z] at q
      exact m.ob c o' (by rw [put_ne z]; exact q)
def CxHand : Con := fun ts h Q _ => ∃ ns k, ts = [.scr ns, .int k] ∧ 0 ≤ k ∧ k ≤ 63 ∧ ns.length ≤ 63 ∧ ∀ a b, poolOk a b → ∀ p, h p = none → Q (.ref p) (put h p (.lst [.int a, .int b]))
def CHand : Con := fun ts h Q _ => ∃ ns k, ts = [.scr ns, .int k] ∧ 0 ≤ k ∧ k ≤ 63 ∧ ns.length ≤ 63 ∧ ∀ p, h p = none → Q (.ref p) (put h p .pool)
theorem hand_wk : ∀ vs H Q E, liftSp K 2 CHand vs H Q E → liftSp K 2 CxHand vs H Q E := fun vs H Q' E' ⟨S, h, ts, Q, E, m, r, l, ⟨ns, k, et, k0, k1, hn, q⟩, pk, px⟩ =>
  ⟨S, h, ts, fun u h1 => ∃ p a b, poolOk a b ∧ h p = none ∧ u = .ref p ∧ h1 = put h p (.lst [.int a, .int b]), E, m, r, l, ⟨ns, k, et, k0, k1, hn, fun a b o p hp => ⟨p, a, b, o, hp, rfl, rfl⟩⟩, fun S1 H1 h1 v u f1 m1 r1 ⟨p, a, b, o, hp, eu, eh⟩ => by
    subst eu eh
    exact pk S1 H1 _ v _ f1 (m1.repool o) r1 (q p hp), px⟩
def CxDraw : Con := fun ts h Q _ => ∃ p n a b, ts = [.ref p, .int n] ∧ 0 < n ∧ n < 2 ^ 250 ∧ h p = some (.lst [.int a, .int b]) ∧ poolOk a b ∧ ∀ r a' b', 0 ≤ r → r < n → poolOk a' b' → Q (.int r) (put h p (.lst [.int a', .int b']))
def CDraw : Con := fun ts h Q _ => ∃ p n, ts = [.ref p, .int n] ∧ 0 < n ∧ n < 2 ^ 250 ∧ h p = some .pool ∧ ∀ r, 0 ≤ r → r < n → Q (.int r) h
theorem draw_wk : ∀ vs H Q E, liftSp K 2 CDraw vs H Q E → liftSp K 2 CxDraw vs H Q E := fun vs H Q' E' ⟨S, h, ts, Q, E, m, r, l, ⟨p, n, et, n0, n1, hp, q⟩, pk, px⟩ => by
  obtain ⟨a, b, o, m'⟩ := m.unpool hp
  refine ⟨S, _, ts, fun u h1 => ∃ r a' b', 0 ≤ r ∧ r < n ∧ poolOk a' b' ∧ u = .int r ∧ h1 = put h p (.lst [.int a', .int b']), fun _ _ => False, m', r, l, ⟨p, n, a, b, et, n0, n1, put_same, o, fun r a' b' r0 r1 o' => ⟨r, a', b', r0, r1, o', rfl, by rw [put_put]⟩⟩, fun S1 H1 h1 v u f1 m1 r1 ⟨r, a', b', r0, r1', o', eu, eh⟩ => ?_, fun _ _ _ _ _ _ _ _ _ z => z.elim⟩
  subst eu eh
  have m2 := m1.repool o'
  rw [put_id hp] at m2
  exact pk S1 H1 _ v _ f1 m2 r1 (q r r0 r1')
theorem law_start {c : Con} {H : Hp} {a : Addr} {ns : List Int} (hS : SqL K H a (ns.map V.int)) (hc : c [.scr ns] (fun _ => none) (fun u _ => u = .bl true) fun _ _ => False) : liftSp K 1 c [.ref a] H (fun v _ => v = .bl true) fun _ _ _ => False := by
  rcases hS with hS | hS
  · have ha : H a ≠ none := by rcases hS with z | ⟨o, z⟩ <;> (rw [z]; exact fun y => nomatch y)
    exact ⟨⟨fun b => b = a, fun _ => False⟩, fun _ => none, [.scr ns], _, _, ⟨fun _ _ => rfl, fun b s => s.elim (fun z => by rw [z]; exact ha) False.elim, fun _ _ z => z, fun _ _ z => nomatch z⟩, .cons (.scr rfl hS) .nil, rfl, hc, fun S1 H1 h1 v u f1 m1 r1 e => by
      subst e; cases r1; rfl, fun _ _ _ _ _ _ _ _ _ z => z.elim⟩
  · exact ⟨⟨fun b => False, fun _ => False⟩, fun _ => none, [.scr ns], _, _, ⟨fun _ _ => rfl, fun b s => s.elim False.elim False.elim, fun _ z => z.elim, fun _ _ z => nomatch z⟩, .cons (.scrK hS) .nil, rfl, hc, fun S1 H1 h1 v u f1 m1 r1 e => by
      subst e; cases r1; rfl, fun _ _ _ _ _ _ _ _ _ z => z.elim⟩
theorem no_law {P : Program} {w : World} {H : Hp} {s : Shared} {e : Value} {s' : Shared} (c : L2.CX P w [] H s (fun _ _ _ => False) e s') : False := by
  obtain ⟨_, _, _, _, _, _, _, _, _, _, _, _, z⟩ := c
  exact z
end
end TL

namespace TL
open PySem L2
theorem atI_nat' {α : Type} {xs : List α} {n : Nat} {x : α} (h : xs[n]? = some x) : atI xs (n : Int) = some x := by
  unfold atI ixN
  have hl : n < xs.length := (List.getElem?_eq_some_iff.mp h).1
  rw [if_pos (by omega), if_pos (by omega)]
  simpa using h
theorem atI_0 {α : Type} {x : α} {xs : List α} : atI (x :: xs) 0 = some x := atI_nat' (n := 0) rfl
theorem atI_1 {α : Type} {a x : α} {xs : List α} : atI (a :: x :: xs) 1 = some x := atI_nat' (n := 1) rfl
theorem atI_2 {α : Type} {a b x : α} {xs : List α} : atI (a :: b :: x :: xs) 2 = some x := atI_nat' (n := 2) rfl
theorem atI_3 {α : Type} {a b c x : α} {xs : List α} : atI (a :: b :: c :: x :: xs) 3 = some x := atI_nat' (n := 3) rfl
theorem atI_4 {α : Type} {a b c d x : α} {xs : List α} : atI (a :: b :: c :: d :: x :: xs) 4 = some x := atI_nat' (n := 4) rfl
theorem atI_5 {α : Type} {a b c d e x : α} {xs : List α} : atI (a :: b :: c :: d :: e :: x :: xs) 5 = some x := atI_nat' (n := 5) rfl
theorem atI_6 {α : Type} {a b c d e f x : α} {xs : List α} : atI (a :: b :: c :: d :: e :: f :: x :: xs) 6 = some x := atI_nat' (n := 6) rfl
theorem atI_7 {α : Type} {a b c d e f g x : α} {xs : List α} : atI (a :: b :: c :: d :: e :: f :: g :: x :: xs) 7 = some x := atI_nat' (n := 7) rfl
theorem atI_8 {α : Type} {a b c d e f g h x : α} {xs : List α} : atI (a :: b :: c :: d :: e :: f :: g :: h :: x :: xs) 8 = some x := atI_nat' (n := 8) rfl
theorem atI_m1 {α : Type} {x : α} {xs : List α} : atI (xs ++ [x]) (-1) = some x := by
  unfold atI ixN
  rw [if_neg (by omega), if_pos (by simp; omega)]
  have e : (-1 + (((xs ++ [x]).length : Nat) : Int)).toNat = xs.length := by simp; omega
  show (xs ++ [x])[(-1 + (((xs ++ [x]).length : Nat) : Int)).toNat]? = some x
  rw [e]
  simp
theorem ixN_0 {n : Nat} : ixN (n + 1) 0 = some 0 := by unfold ixN; rw [if_pos (by omega), if_pos (by omega)]; rfl
theorem ixN_1 {n : Nat} : ixN (n + 1 + 1) 1 = some 1 := by unfold ixN; rw [if_pos (by omega), if_pos (by omega)]; rfl
theorem ixN_nat {n i : Nat} (h : i < n) : ixN n (i : Int) = some i := by unfold ixN; rw [if_pos (by omega), if_pos (by omega)]; simp
theorem atI_map {α β : Type} {f : α → β} {xs : List α} {i : Nat} {x : α} (h : xs[i]? = some x) : atI (xs.map f) (i : Int) = some (f x) := atI_nat' (by rw [List.getElem?_map, h]; rfl)

theorem kdN_int : kdN "int" = some .int := by decide
theorem kdN_bool : kdN "bool" = some .bl := by decide
theorem kdN_str : kdN "str" = some .str := by decide
theorem kdN_list : kdN "list" = some .lst := by decide
theorem kdN_tuple : kdN "tuple" = some .tup := by decide
theorem view_int {h : Hq} {i : Int} : view h (.int i) = .int i := rfl
theorem view_non {h : Hq} : view h .non = .non := rfl
theorem dep_int {i : Int} : depth? (.int i) = true := rfl
theorem dep_non : depth? .non = true := rfl

def dat : Nat → T → Bool
  | 0, _ => false
  | _ + 1, .non => true
  | _ + 1, .bl _ => true
  | _ + 1, .int _ => true
  | _ + 1, .str x => PyData.strOk x
  | n + 1, .tup ts => ts.all (dat n)
  | n + 1, .lst ts => ts.all (dat n)
  | _ + 1, _ => false
theorem dat_toDs {n : Nat} (ih : ∀ t, dat n t = true → ∃ d, toD t = some d ∧ d.depth ≤ n) : ∀ ts : List T, ts.all (dat n) = true → ∃ ds, toDs ts = some ds ∧ PyData.depthAll ds ≤ n
  | [], _ => ⟨[], rfl, Nat.zero_le _⟩
  | t :: ts, h => by
    rw [List.all_cons, Bool.and_eq_true] at h
    obtain ⟨d, e1, n1⟩ := ih t h.1
    obtain ⟨ds, e2, n2⟩ := dat_toDs ih ts h.2
    refine ⟨d :: ds, by unfold toDs; rw [e1, e2], ?_⟩
    unfold PyData.depthAll
    omega
theorem dat_toD : ∀ (n : Nat) (t : T), dat n t = true → ∃ d, toD t = some d ∧ d.depth ≤ n
  | 0, _, h => by cases h
  | n + 1, .non, _ => ⟨_, rfl, by unfold PyData.depth; omega⟩
  | n + 1, .bl _, _ => ⟨_, rfl, by unfold PyData.depth; omega⟩
  | n + 1, .int _, _ => ⟨_, rfl, by unfold PyData.depth; omega⟩
  | n + 1, .str x, h => ⟨.str x, by unfold toD; exact if_pos h, by unfold PyData.depth; omega⟩
  | n + 1, .tup ts, h => by
    obtain ⟨ds, e, k⟩ := dat_toDs (dat_toD n) ts h
    exact ⟨.tuple ds, by unfold toD; rw [e]; rfl, by unfold PyData.depth; omega⟩
  | n + 1, .lst ts, h => by
    obtain ⟨ds, e, k⟩ := dat_toDs (dat_toD n) ts h
    exact ⟨.list ds, by unfold toD; rw [e]; rfl, by unfold PyData.depth; omega⟩
  | n + 1, .ins _ _, h => by cases h
  | n + 1, .ref _, h => by cases h
  | n + 1, .ty _, h => by cases h
  | n + 1, .scr _, h => by cases h
theorem dep {n : Nat} {t : T} (h : dat n t = true) (hn : n ≤ 64 := by decide) : depth? t = true := by
  obtain ⟨d, e, k⟩ := dat_toD n t h
  unfold depth?
  rw [e]
  exact decide_eq_true (by omega)
def cln : Nat → T → Bool
  | 0, _ => false
  | _ + 1, .non => true
  | _ + 1, .int _ => true
  | _ + 1, .str x => PyData.strOk x
  | n + 1, .tup ts => ts.all (cln n)
  | n + 1, .lst ts => ts.all (cln n)
  | _ + 1, _ => false
theorem cln_dat : ∀ (n : Nat) (t : T), cln n t = true → dat n t = true
  | 0, _, h => by cases h
  | n + 1, .non, _ => rfl
  | n + 1, .int _, _ => rfl
  | n + 1, .str x, h => h
  | n + 1, .tup ts, h => by
    unfold cln at h; unfold dat
    rw [List.all_eq_true] at *
    exact fun x hx => cln_dat n x (h x hx)
  | n + 1, .lst ts, h => by
    unfold cln at h; unfold dat
    rw [List.all_eq_true] at *
    exact fun x hx => cln_dat n x (h x hx)
  | n + 1, .bl _, h => by cases h
  | n + 1, .ins _ _, h => by cases h
  | n + 1, .ref _, h => by cases h
  | n + 1, .ty _, h => by cases h
  | n + 1, .scr _, h => by cases h
def eqTs : List T → List T → Bool
  | [], [] => true
  | x :: xs, y :: ys => eqT x y && eqTs xs ys
  | _, _ => false
theorem eqTs_ok : ∀ {xs ys : List T} {ds es : List PyData}, toDs xs = some ds → toDs ys = some es → PyData.eqvAll ds es = eqTs xs ys
  | [], [], _, _, e1, e2 => by cases e1; cases e2; rfl
  | [], y :: ys, _, _, e1, e2 => by
    cases e1
    unfold toDs at e2
    split at e2
    · cases e2; rfl
    · cases e2
  | x :: xs, [], _, _, e1, e2 => by
    cases e2
    unfold toDs at e1
    split at e1
    · cases e1; rfl
    · cases e1
  | x :: xs, y :: ys, _, _, e1, e2 => by
    unfold toDs at e1 e2
    split at e1
    · rename_i d ds a1 a2
      split at e2
      · rename_i e es b1 b2
        cases e1; cases e2
        show (PyData.eqv d e && PyData.eqvAll ds es) = (eqT x y && eqTs xs ys)
        rw [eqTs_ok a2 b2]
        unfold eqT
        rw [a1, b1]
      · cases e2
    · cases e1
theorem eqT_lst {n m : Nat} {xs ys : List T} (h1 : dat n (.lst xs) = true) (h2 : dat m (.lst ys) = true) : eqT (.lst xs) (.lst ys) = eqTs xs ys := by
  obtain ⟨d, e1, _⟩ := dat_toD _ _ h1
  obtain ⟨e, e2, _⟩ := dat_toD _ _ h2
  unfold eqT
  rw [e1, e2]
  unfold toD at e1 e2
  cases a : toDs xs with
  | none => rw [a] at e1; cases e1
  | some ds =>
    cases b : toDs ys with
    | none => rw [b] at e2; cases e2
    | some es =>
      rw [a] at e1; rw [b] at e2
      cases e1; cases e2
      exact eqTs_ok a b
theorem eqT_tup {n m : Nat} {xs ys : List T} (h1 : dat n (.tup xs) = true) (h2 : dat m (.tup ys) = true) : eqT (.tup xs) (.tup ys) = eqTs xs ys := by
  obtain ⟨d, e1, _⟩ := dat_toD _ _ h1
  obtain ⟨e, e2, _⟩ := dat_toD _ _ h2
  unfold eqT
  rw [e1, e2]
  unfold toD at e1 e2
  cases a : toDs xs with
  | none => rw [a] at e1; cases e1
  | some ds =>
    cases b : toDs ys with
    | none => rw [b] at e2; cases e2
    | some es =>
      rw [a] at e1; rw [b] at e2
      cases e1; cases e2
      exact eqTs_ok a b
theorem eqT_int (i j : Int) : eqT (.int i) (.int j) = decide (i = j) := by
  show (i == j) = _
  rw [Bool.beq_eq_decide_eq]
theorem eqT_bl (i j : Bool) : eqT (.bl i) (.bl j) = (i == j) := rfl
theorem eqT_nn : eqT .non .non = true := rfl
theorem eqT_in (i : Int) : eqT (.int i) .non = false := rfl
theorem eqT_ni (i : Int) : eqT .non (.int i) = false := rfl
theorem eqT_str {x y : Str} (h1 : PyData.strOk x = true) (h2 : PyData.strOk y = true) : eqT (.str x) (.str y) = decide (x = y) := by
  unfold eqT toD
  rw [if_pos h1, if_pos h2]
  show (x == y) = _
  rw [Bool.beq_eq_decide_eq]
mutual
theorem eqT_iff : ∀ (n : Nat) (x y : T), cln n x = true → cln n y = true → (eqT x y = true ↔ x = y)
  | 0, _, _, h, _ => by cases h
  | n + 1, x, y, h1, h2 => by
    have no : ∀ {a b : T}, eqT a b = false → a ≠ b → (eqT a b = true ↔ a = b) := fun e d => ⟨fun q => (by rw [e] at q; cases q), fun q => absurd q d⟩
    have kind : ∀ {k : PyData} {a b : T}, toD a = some k → (∀ e, toD b = some e → PyData.eqv k e = false) → eqT a b = false := fun {k a b} e f => by
      unfold eqT
      rw [e]
      split
      · rename_i d e' q1 q2; cases q1; exact f _ q2
      · rfl
    have lstD : ∀ {ts : List T} {e : PyData}, toD (.lst ts) = some e → ∃ es, e = .list es := fun {ts e} q => by
      unfold toD at q
      cases a : toDs ts with
      | none => rw [a] at q; cases q
      | some ds => rw [a] at q; cases q; exact ⟨ds, rfl⟩
    have tupD : ∀ {ts : List T} {e : PyData}, toD (.tup ts) = some e → ∃ es, e = .tuple es := fun {ts e} q => by
      unfold toD at q
      cases a : toDs ts with
      | none => rw [a] at q; cases q
      | some ds => rw [a] at q; cases q; exact ⟨ds, rfl⟩
    have strD : ∀ {z : Str} {e : PyData}, toD (.str z) = some e → e = .str z := fun {z e} q => by
      unfold toD at q
      split at q
      · cases q; rfl
      · cases q
    obtain ⟨dx, ex, _⟩ := dat_toD _ _ (cln_dat _ _ h1)
    cases x with
    | non => cases y with
      | non => exact ⟨fun _ => rfl, fun _ => rfl⟩
      | int j => exact no rfl (fun q => nomatch q)
      | str z => exact no (kind rfl fun e q => by rw [strD q]; rfl) (fun q => nomatch q)
      | tup ts => exact no (kind rfl fun e q => by obtain ⟨es, rfl⟩ := tupD q; rfl) (fun q => nomatch q)
      | lst ts => exact no (kind rfl fun e q => by obtain ⟨es, rfl⟩ := lstD q; rfl) (fun q => nomatch q)
      | bl _ => cases h2
      | ins _ _ => cases h2
      | ref _ => cases h2
      | ty _ => cases h2
      | scr _ => cases h2
      | exc _ _ _ _ => cases h2
      | xob _ _ => cases h2
    | int i => cases y with
      | non => exact no rfl (fun q => nomatch q)
      | int j => rw [eqT_int]; exact ⟨fun q => (by rw [of_decide_eq_true q]), fun q => (by cases q; exact decide_eq_true rfl)⟩
      | str z => exact no (kind rfl fun e q => by rw [strD q]; rfl) (fun q => nomatch q)
      | tup ts => exact no (kind rfl fun e q => by obtain ⟨es, rfl⟩ := tupD q; rfl) (fun q => nomatch q)
      | lst ts => exact no (kind rfl fun e q => by obtain ⟨es, rfl⟩ := lstD q; rfl) (fun q => nomatch q)
      | bl _ => cases h2
      | ins _ _ => cases h2
      | ref _ => cases h2
      | ty _ => cases h2
      | scr _ => cases h2
      | exc _ _ _ _ => cases h2
      | xob _ _ => cases h2
    | str w =>
      rw [strD ex] at ex
      cases y with
      | non => exact no (kind ex fun e q => by cases q; rfl) (fun q => nomatch q)
      | int j => exact no (kind ex fun e q => by cases q; rfl) (fun q => nomatch q)
      | str z => rw [eqT_str h1 h2]; exact ⟨fun q => (by rw [of_decide_eq_true q]), fun q => (by cases q; exact decide_eq_true rfl)⟩
      | tup ts => exact no (kind ex fun e q => by obtain ⟨es, rfl⟩ := tupD q; rfl) (fun q => nomatch q)
      | lst ts => exact no (kind ex fun e q => by obtain ⟨es, rfl⟩ := lstD q; rfl) (fun q => nomatch q)
      | bl _ => cases h2
      | ins _ _ => cases h2
      | ref _ => cases h2
      | ty _ => cases h2
      | scr _ => cases h2
      | exc _ _ _ _ => cases h2
      | xob _ _ => cases h2
    | tup us =>
      obtain ⟨ds, rfl⟩ := tupD ex
      cases y with
      | non => exact no (kind ex fun e q => by cases q; rfl) (fun q => nomatch q)
      | int j => exact no (kind ex fun e q => by cases q; rfl) (fun q => nomatch q)
      | str z => exact no (kind ex fun e q => by rw [strD q]; rfl) (fun q => nomatch q)
      | tup ts =>
        rw [eqT_tup (cln_dat _ _ h1) (cln_dat _ _ h2), eqTs_iff n us ts h1 h2]
        exact ⟨fun q => by rw [q], fun q => by cases q; rfl⟩
      | lst ts => exact no (kind ex fun e q => by obtain ⟨es, rfl⟩ := lstD q; rfl) (fun q => nomatch q)
      | bl _ => cases h2
      | ins _ _ => cases h2
      | ref _ => cases h2
      | ty _ => cases h2
      | scr _ => cases h2
      | exc _ _ _ _ => cases h2
      | xob _ _ => cases h2
    | lst us =>
      obtain ⟨ds, rfl⟩ := lstD ex
      cases y with
      | non => exact no (kind ex fun e q => by cases q; rfl) (fun q => nomatch q)
      | int j => exact no (kind ex fun e q => by cases q; rfl) (fun q => nomatch q)
      | str z => exact no (kind ex fun e q => by rw [strD q]; rfl) (fun q => nomatch q)
      | tup ts => exact no (kind ex fun e q => by obtain ⟨es, rfl⟩ := tupD q; rfl) (fun q => nomatch q)
      | lst ts =>
        rw [eqT_lst (cln_dat _ _ h1) (cln_dat _ _ h2), eqTs_iff n us ts h1 h2]
        exact ⟨fun q => by rw [q], fun q => by cases q; rfl⟩
      | bl _ => cases h2
      | ins _ _ => cases h2
      | ref _ => cases h2
      | ty _ => cases h2
      | scr _ => cases h2
      | exc _ _ _ _ => cases h2
      | xob _ _ => cases h2
    | bl _ => cases h1
    | ins _ _ => cases h1
    | ref _ => cases h1
    | ty _ => cases h1
    | scr _ => cases h1
    | exc _ _ _ _ => cases h1
    | xob _ _ => cases h1
theorem eqTs_iff : ∀ (n : Nat) (xs ys : List T), xs.all (cln n) = true → ys.all (cln n) = true → (eqTs xs ys = true ↔ xs = ys)
  | n, [], [], _, _ => ⟨fun _ => rfl, fun _ => rfl⟩
  | n, [], y :: ys, _, _ => ⟨fun q => (Bool.noConfusion q), fun q => nomatch q⟩
  | n, x :: xs, [], _, _ => ⟨fun q => (Bool.noConfusion q), fun q => nomatch q⟩
  | n, x :: xs, y :: ys, h1, h2 => by
    rw [List.all_cons, Bool.and_eq_true] at h1 h2
    show (eqT x y && eqTs xs ys) = true ↔ _
    rw [Bool.and_eq_true, eqT_iff n x y h1.1 h2.1, eqTs_iff n xs ys h1.2 h2.2]
    exact ⟨fun q => by rw [q.1, q.2], fun q => by cases q; exact ⟨rfl, rfl⟩⟩
end
theorem eqT_dec {n : Nat} {x y : T} {p : Prop} [Decidable p] (h1 : cln n x = true) (h2 : cln n y = true) (e : x = y ↔ p) : eqT x y = decide p := by
  have := eqT_iff n x y h1 h2
  by_cases c : p
  · rw [decide_eq_true c]; exact this.mpr (e.mpr c)
  · rw [decide_eq_false c]
    cases q : eqT x y with
    | false => rfl
    | true => exact absurd (e.mp (this.mp q)) c
theorem inT_iff {n : Nat} {x : T} {ys : List T} (h1 : cln n x = true) (h2 : ys.all (cln n) = true) : inT x ys = true ↔ x ∈ ys := by
  unfold inT
  rw [List.any_eq_true]
  rw [List.all_eq_true] at h2
  constructor
  · rintro ⟨y, hy, e⟩
    rw [(eqT_iff n y x (h2 y hy) h1).mp e] at hy
    exact hy
  · intro hx
    exact ⟨x, hx, (eqT_iff n x x h1 h1).mpr rfl⟩
theorem map_int_inj {xs ys : List Int} : xs.map T.int = ys.map T.int ↔ xs = ys := by
  constructor
  · intro e
    have : (xs.map T.int).map (fun t => match t with | .int i => i | _ => 0) = (ys.map T.int).map (fun t => match t with | .int i => i | _ => 0) := by rw [e]
    simpa [List.map_map, Function.comp_def] using this
  · intro e; rw [e]
theorem ints_cln (n : Nat) (xs : List Int) : (xs.map T.int).all (cln (n + 1)) = true := by
  rw [List.all_eq_true]
  intro t ht
  obtain ⟨i, _, rfl⟩ := List.mem_map.mp ht
  rfl
theorem ints_dat (n : Nat) (xs : List Int) : (xs.map T.int).all (dat (n + 1)) = true := by
  rw [List.all_eq_true]
  intro t ht
  obtain ⟨i, _, rfl⟩ := List.mem_map.mp ht
  rfl

theorem lc_pure {fl : Bool} {ts : List T} {stay : Hq → Prop} {g : T → Sl → Option Sl} {s : Sl} {tt : TM} {el : EM} {h : Hq} {Q : TK} (f : T → Option T) (hst : stay h) (hl : ts.length ≤ lim)
    (hs : ∀ t ∈ ts, ∀ R : Option T → Hq → Prop, R (f t) h → match g t s with
      | some s2 => tt s2 h (fun b h3 => if b = true then el s2 h3 (fun y h4 => R (some y) h4) E0 else R none h3) E0
      | none => False) (hQ : mk fl (ts.filterMap f) h Q) :
    ∃ I : Nat → List T → Hq → Prop, I 0 [] h ∧ ∀ i acc h, i ≤ ts.length → I i acc h → stay h ∧ match ts[i]? with
      | none => mk fl acc h Q
      | some t => acc.length < lim ∧ match g t s with
        | some s2 => tt s2 h (fun b h3 => if b = true then el s2 h3 (fun y h4 => I (i + 1) (acc ++ [y]) h4) E0 else I (i + 1) acc h3) E0
        | none => False := by
  refine ⟨fun i acc h' => acc = (ts.take i).filterMap f ∧ h' = h, ⟨by simp, rfl⟩, ?_⟩
  rintro i acc h' hi ⟨rfl, rfl⟩
  refine ⟨hst, ?_⟩
  cases e : ts[i]? with
  | none =>
    have : ts.take i = ts := List.take_of_length_le (List.getElem?_eq_none_iff.mp e)
    show mk fl ((ts.take i).filterMap f) h' Q
    rw [this]
    exact hQ
  | some t =>
    have hm : t ∈ ts := List.mem_of_getElem? e
    have hi' : i < ts.length := (List.getElem?_eq_some_iff.mp e).1
    refine ⟨?_, ?_⟩
    · have h1 := List.length_filterMap_le f (ts.take i)
      have h2 : (ts.take i).length ≤ i := by rw [List.length_take]; omega
      omega
    · have q := hs t hm (fun o h4 => h4 = h' ∧ o = f t) ⟨rfl, rfl⟩
      have tk : (ts.take (i + 1)).filterMap f = (ts.take i).filterMap f ++ (f t).toList := by
        rw [List.take_add_one, e, List.filterMap_append]
        cases z : f t <;> simp [z]
      have q2 := hs t hm (fun o h4 => (ts.take i).filterMap f ++ o.toList = (ts.take (i + 1)).filterMap f ∧ h4 = h') ⟨tk.symm, rfl⟩
      dsimp only at q2 ⊢
      simpa using q2
theorem lcK_pure {fl : Bool} {ts : List T} {stay : Hq → Prop} {g : T → Sl → Option Sl} {tt : TM} {el : EM} {s : Sl} {h : Hq} {Q : TK} (f : T → Option T) (hst : stay h) (hl : ts.length ≤ 1000000)
    (hs : ∀ t ∈ ts, ∀ R : Option T → Hq → Prop, R (f t) h → match g t s with
      | some s2 => tt s2 h (fun b h3 => if b = true then el s2 h3 (fun y h4 => R (some y) h4) E0 else R none h3) E0
      | none => False) (hQ : mk fl (ts.filterMap f) h Q) : LcK fl ts stay g tt el s h Q := lc_pure f hst hl hs hQ
theorem lcK_map {fl : Bool} {ts : List T} {stay : Hq → Prop} {g : T → Sl → Option Sl} {el : EM} {s : Sl} {h : Hq} {Q : TK} (f : T → T) (hst : stay h) (hl : ts.length ≤ 1000000)
    (hs : ∀ t ∈ ts, ∀ R : TK, R (f t) h → match g t s with
      | some s2 => el s2 h R E0
      | none => False) (hQ : mk fl (ts.map f) h Q) : LcK fl ts stay g tYes el s h Q := by
  refine lc_pure (fun t => some (f t)) hst hl (fun t ht R r => ?_) (by rw [List.filterMap_eq_map']; exact hQ)
  have q := hs t ht (fun y h4 => R (some y) h4) r
  split at q
  · exact iteT (B := R none h) q
  · exact q.elim
theorem put_comm {h : Hq} {a b : Addr} {x y : O} (n : a ≠ b) : put (put h a x) b y = put (put h b y) a x := by
  funext c
  unfold put
  by_cases c1 : c = a
  · subst c1; rw [if_neg n, if_pos rfl, if_pos rfl]
  · rw [if_neg c1]; split <;> rfl
theorem put_none {h : Hq} {a b : Addr} {x : O} (e : put h a x b = none) : b ≠ a ∧ h b = none := by
  by_cases c : b = a
  · subst c; rw [put_same] at e; cases e
  · exact ⟨c, by rw [put_ne c] at e; exact e⟩
theorem enum_at {ts : List T} {i : Nat} {t : T} (e : (enumT ts)[i]? = some t) : ∃ x, ts[i]? = some x ∧ t = .tup [.int i, x] := by
  unfold enumT at e
  rw [List.getElem?_mapIdx] at e
  cases z : ts[i]? with
  | none => rw [z] at e; cases e
  | some x => rw [z] at e; cases e; exact ⟨x, rfl, rfl⟩
theorem enum_len {ts : List T} : (enumT ts).length = ts.length := by unfold enumT; simp
theorem rng_at {lo : Int} {n i : Nat} {t : T} (e : (rng lo n)[i]? = some t) : i < n ∧ t = .int (lo + i) := by
  unfold rng at e
  rw [List.getElem?_map] at e
  by_cases c : i < n
  · rw [List.getElem?_range c] at e; cases e; exact ⟨c, rfl⟩
  · rw [List.getElem?_eq_none_iff.mpr (by simp; omega)] at e; cases e
theorem rng_none {lo : Int} {n i : Nat} (e : (rng lo n)[i]? = none) : n ≤ i := by
  unfold rng at e
  have := List.getElem?_eq_none_iff.mp e
  simpa using this
theorem rng_len {lo : Int} {n : Nat} : (rng lo n).length = n := by unfold rng; simp
theorem filterMap_ite {α β : Type} (p : α → Bool) (f : α → β) : ∀ l : List α, (l.filterMap fun k => if p k = true then some (f k) else none) = (l.filter p).map f
  | [] => rfl
  | x :: l => by
    have ih := filterMap_ite p f l
    cases c : p x with
    | true => rw [List.filterMap_cons_some (b := f x) (by simp [c]), List.filter_cons_of_pos (by simp [c]), ih]; rfl
    | false => rw [List.filterMap_cons_none (by simp [c]), List.filter_cons_of_neg (by simp [c]), ih]
theorem forK_go {ts : List T} {stay : Hq → Prop} {g : GM} {b : SM} {D : En} {s : Sl} {h : Hq} (I : Nat → SK) (h0 : I 0 s h)
    (hend : ∀ s h, I ts.length s h → stay h ∧ D.nx s h) (hstep : ∀ i t s h, ts[i]? = some t → I i s h → stay h ∧ g t s h (fun s2 h2 => b { D with nx := I (i + 1), ct := I (i + 1), bk := D.nx } s2 h2) D.ex) : ForK ts stay g b D s h := by
  refine ⟨I, h0, fun i s h hi q => ?_⟩
  cases e : ts[i]? with
  | none =>
    have : i = ts.length := Nat.le_antisymm hi (List.getElem?_eq_none_iff.mp e)
    subst this
    exact hend s h q
  | some t => exact hstep i t s h e q
theorem lcK_fA {α : Type} {fl : Bool} {enc : α → T} {xs : List α} {stay : Hq → Prop} {g : T → Sl → Option Sl} {tt : TM} {el : EM} {s : Sl} {h : Hq} {Q : TK} (f : α → Option T) (hst : stay h) (hl : xs.length ≤ 1000000)
    (hs : ∀ x ∈ xs, ∀ R : Option T → Hq → Prop, R (f x) h → match g (enc x) s with
      | some s2 => tt s2 h (fun b h3 => if b = true then el s2 h3 (fun y h4 => R (some y) h4) E0 else R none h3) E0
      | none => False) (hQ : mk fl (xs.filterMap f) h Q) : LcK fl (xs.map enc) stay g tt el s h Q := by
  refine ⟨fun i acc h' => acc = (xs.take i).filterMap f ∧ h' = h, ⟨by simp, rfl⟩, ?_⟩
  rintro i acc h' hi ⟨rfl, rfl⟩
  refine ⟨hst, ?_⟩
  cases e : xs[i]? with
  | none =>
    have : xs.take i = xs := List.take_of_length_le (List.getElem?_eq_none_iff.mp e)
    rw [List.getElem?_map, e, this]
    exact hQ
  | some x =>
    have hm : x ∈ xs := List.mem_of_getElem? e
    have hi' : i < xs.length := (List.getElem?_eq_some_iff.mp e).1
    rw [List.getElem?_map, e]
    refine ⟨?_, ?_⟩
    · have h1 := List.length_filterMap_le f (xs.take i)
      have h2 : (xs.take i).length ≤ i := by rw [List.length_take]; omega
      show _ < 1000000
      omega
    · have tk : (xs.take (i + 1)).filterMap f = (xs.take i).filterMap f ++ (f x).toList := by
        rw [List.take_add_one, e, List.filterMap_append]
        cases z : f x <;> simp [z]
      have q2 := hs x hm (fun o h4 => (xs.take i).filterMap f ++ o.toList = (xs.take (i + 1)).filterMap f ∧ h4 = h') ⟨tk.symm, rfl⟩
      simp only [Option.toList_some, Option.toList_none, List.append_nil] at q2
      exact q2
theorem lcK_mA {α : Type} {fl : Bool} {enc : α → T} {xs : List α} {stay : Hq → Prop} {g : T → Sl → Option Sl} {el : EM} {s : Sl} {h : Hq} {Q : TK} (f : α → T) (hst : stay h) (hl : xs.length ≤ 1000000)
    (hs : ∀ x ∈ xs, ∀ R : TK, R (f x) h → match g (enc x) s with
      | some s2 => el s2 h R E0
      | none => False) (hQ : mk fl (xs.map f) h Q) : LcK fl (xs.map enc) stay g tYes el s h Q := by
  refine lcK_fA (fun t => some (f t)) hst hl (fun t ht R r => ?_) (by rw [List.filterMap_eq_map']; exact hQ)
  have q := hs t ht (fun y h4 => R (some y) h4) r
  split at q
  · exact iteT (B := R none h) q
  · exact q.elim
end TL

namespace TL
open PySem L2

section
variable {K : PySem.W.Frag} {S : Fz} {H : Hp}
theorem RepF.look : ∀ {fs : List (Str × V)} {gs : List (Str × T)} {f : Str} {t : T}, RepF K S H fs gs → gs.lookup f = some t → ∃ v, fs.lookup f = some v ∧ Rep K S H v t
  | _, _, _, _, .nil, e => by cases e
  | _, _, f, t, .cons (f := g) (v := v) (vs := vs) (t := u) (ts := ts) r q, e => by
    rw [List.lookup_cons] at e ⊢
    cases z : f == g with
    | true => rw [z] at e; cases e; exact ⟨v, rfl, r⟩
    | false => rw [z] at e; exact RepF.look q e
theorem RepS.unset {σ : L2.St} {s : Sl} (r : RepS K S H σ s) (i : Nat) : RepS K S H (σ.set i none) (s.set i none) := ⟨by simp [r.len], fun j u e => by
  by_cases c : i = j
  · subst c
    have hl : i < s.length := by
      have := (List.getElem?_eq_some_iff.mp e).1
      simpa using this
    rw [List.getElem?_set_self hl] at e
    cases e
  · rw [List.getElem?_set_ne c] at e
    obtain ⟨w, h1, h2⟩ := r.at_ j u e
    exact ⟨w, by rw [List.getElem?_set_ne c]; exact h1, h2⟩⟩
theorem RepX.rep {cls : Value} {d : Option Addr} {x : Ex} (r : RepX K S H cls d x) (a : Addr) : Rep K S H (.ref a) (.exc a x.cls d x.fs) := by
  obtain ⟨_, ⟨e1, e2⟩ | ⟨dd, fs, e1, e2, e3, e4⟩⟩ := r
  · rw [e1, e2]; exact .exc0
  · rw [e1]; exact .exc e2 e3 e4
end

def spInit (C : Addr) (f : Str) : Sp := fun vs H Q _ => ∃ a y, vs = [.ref a, y] ∧ H a = some (exo a C none) ∧ ∀ dx, H dx = none → dx ≠ a → Q .non (upd (upd H dx (exd dx [(f, y)])) a (exo a C (some dx)))
theorem init_ok {P : Program} {w : World} {K : PySem.W.Frag} {mg : Str → Option Value} {base : Heap} {qual : Str} {st : Stmt} {fI C : Addr} {fd : FuncData} {y f : Str} {p1 p2 p3 p4 : Pos} (F : Fun K "__init__" qual st fI fd) (sc : FnScope ["self", y] ["self", y] (defScope st)) (T : OexC K C) (hno : PySem.W.findIn K (.ref C) f = some none)
    (hb : defBody st = [.Assign [.Attribute (.Name "self" p1) f p2] (.Name y p3) p4])
    (h0 : Vis (defScope st) "self") (h1 : Vis (defScope st) y) (hd : (y == ("__debug__" : Str)) = false) (hcd : (y == ("__classdict__" : Str)) = false)
    (hs : ∀ env, env.scope = defScope st → swapsWith (.Name y p3) (some (.Attribute (.Name "self" p1) f p2)) p4.line env = pure false) : FnOk P w K mg base (L2.CX P w) 1 fI fd ["self", y] (spInit C f) := by
  refine F.okX (k := 0) sc (fun vs H Q E ⟨a, v, e, _⟩ => by rw [e]; rfl) fun cdv A outer s H vs Q E hr ⟨a, v, e, ha, q⟩ => ⟨_, by rw [hb]; exact pss_one (ps_ost (pe_var (i := 0) rfl h0) (pe_var (i := 1) rfl h1 hd hcd) (hs _ rfl)), ?_⟩
  subst e
  refine ⟨v, rfl, .ref a, rfl, a, C, rfl, T, hno, .inl ⟨ha, fun dx n ne => q dx n ne⟩⟩

def sRaise (C : Addr) (f : Str) (a : AM) : SM := fun D s h => a s h (fun ts h1 => match ts with
  | [t] => D.ex ⟨.ref C, [(f, t)]⟩ s h1
  | _ => False) D.ex
section
variable {X : Cx} {W : WX}
theorem noPass {P : Program} {w : World} : Passes (L2.CX P w) X (fun _ _ _ => False) := fun pins σ H s e s' I c => by
  obtain ⟨_, _, _, _, _, _, _, _, _, _, _, _, z⟩ := c
  exact z.elim
theorem js_raise {x f y : Str} {C fI : Addr} {fd : FuncData} {e : Expr} {es : List Expr} {a : AM} {p pos pos' : Pos} (T : OexC X.K C) (iC : PySem.W.findIn X.K (.ref C) "__init__" = some (some (.ref fI))) (tI : PySem.W.typeIn X.K (.ref fI) = some (.type "function"))
    (F1 : FnOk X.prog X.w X.K X.mg X.base (L2.CX X.prog X.w) 1 fI fd ["self", y] (spInit C f)) (hb : Binds X.K fd ["self", y] []) (hr : Room 2 X.A) (hc : X.calm = true) (tk : Takes X W) (hg : Gl X x) (hm : X.mg x = some (.ref C)) (ha : JA X W (e :: es) a)
    (hdb : (x == ("__debug__" : Str)) = false := by decide) (he : starEach (e :: es) X.env = (false, eval e X.env) :: starEach es X.env := by rfl) (hpl : (backTo pos (starEach es X.env)).any (·.1) = false := by rfl) :
    JS X W (.Raise (some (.Call (.Name x p) (e :: es) [] pos)) none pos') (sRaise C f a) := PS.wk (ps_raise hc tk (pmk_oex T iC tI F1 hr hb .nil noPass hg hm ha hdb he hpl)) fun D' σ H ⟨S, h, s, D, m, rs, lk, hm⟩ => by
  refine ⟨S, h, s, _, D.ex, m, rs, lk.ex, hm, fun S1 H1 h1 vs ts f1 m1 r1 q1 => ?_⟩
  split at q1
  · cases r1 with
    | @cons v _ t _ r rn =>
      cases rn
      refine ⟨by simp, fun a na => ⟨a, v, rfl, upd_same, fun dx ndx ne => ⟨rfl, dx, [(f, v)], upd_same, ?_, ?_, ?_⟩⟩⟩
      · rw [upd_ne ne, upd_same]
      · rw [upd_ne ne] at ndx; exact ndx
      · rw [upd_ne ne] at ndx
        have e1 : upd (L2.del (upd (upd (upd H1 a (exo a C none)) dx (exd dx [(f, v)])) a (exo a C (some dx))) a) dx (.xd [(f, v)]) = upd H1 dx (.xd [(f, v)]) := by
          funext b
          by_cases c : b = dx
          · rw [c, upd_same, upd_same]
          · rw [upd_ne c, upd_ne c]
            by_cases c2 : b = a
            · rw [c2, L2.del_same, na]
            · rw [L2.del_ne c2, upd_ne c2, upd_ne c, upd_ne c2]
        rw [e1]
        obtain ⟨m2, f2⟩ := m1.frozen (u := .xd [(f, v)]) ndx
        exact lk.ex _ _ h1 σ s ⟨.ref C, [(f, _)]⟩ _ _ (f1.trans f2) m2 (rs.fut (f1.trans f2)) ⟨rfl, .inr ⟨dx, [(f, v)], rfl, .inr rfl, upd_same, .cons (r.fut f2) .nil⟩⟩ q1
  · exact q1.elim

def exTry (K : PySem.W.Frag) (c : Value) (i : Nat) (ms : Addr → Value → Option Addr → SM) (D : En) : EX := fun x s1 h1 => ∃ ok, PySem.W.exmOne K x.cls c = some ok ∧ (ok = true → ∀ a d, h1 a = none → ms a x.cls d { nx := fun s' h' => D.nx (s'.set i none) h', rt := D.rt, bk := fun s' h' => D.bk (s'.set i none) h', ct := fun s' h' => D.ct (s'.set i none) h' } (s1.set i (some (.exc a x.cls d x.fs))) h1) ∧ (ok = false → D.ex x s1 h1)
def sTry (K : PySem.W.Frag) (c : Value) (i : Nat) (b : SM) (ms : Addr → Value → Option Addr → SM) : SM := fun D s h => b { nx := D.nx, rt := D.rt, bk := D.bk, ct := D.ct, ex := exTry K c i ms D } s h
theorem js_try {x n : Str} {c : Value} {i : Nat} {body suite : List Stmt} {b₀ : Stmt} {np pos pos' : Pos} {mb : SM} {ms : Addr → Value → Option Addr → SM} (hs : X.stack = X.env :: X.outer) (hf : X.env.frame = some X.env.locals) (hN : X.N.Nodup) (hi : X.N[i]? = some n) (hln : X.env.kindOf n = some .local) (hc : Names X x c) (tk : Takes X W)
    (hb : ∀ (W : WX) (pn : List (Addr × Obj)) (xe : Value → Shared → Prop), Takes (X.tr pn xe) W → PassesOwn (model X.prog X.w) X.A X.env xe → JSs (X.tr pn xe) W body mb)
    (hsu : ∀ (a : Addr) (oe : Obj) (cls : Value) (d : Option Addr) (pn : List (Addr × Obj)), Zc cls d oe → (∃ vs, oe.data = .fields vs) → JSs (X.suite a ((a, oe) :: pn)) W0 (b₀ :: suite) (ms a cls d)) :
    JS X W (.Try body [.ExceptHandler (some (.Name x np)) (some n) (b₀ :: suite) pos'] [] [] pos) (sTry X.K c i mb ms) := PS.wk (ps_try_as (tb := fun W => liftS X.K W mb) (ts := fun a cls d => liftS X.K W0 (ms a cls d)) hs hf hN hi hln hc tk hb hsu) fun D' σ H ⟨S, h, s, D, m, rs, lk, hm⟩ => by
  refine ⟨S, h, s, { nx := D.nx, rt := D.rt, bk := D.bk, ct := D.ct, ex := exTry X.K c i ms D }, m, rs, ⟨lk.nx, lk.rt, lk.bk, lk.ct, fun S1 H1 h1 σ1 s1 x cls d f1 m1 r1 rx ⟨ok, e, yes, no⟩ => ?_⟩, hm⟩
  obtain ⟨ec, _⟩ := id rx
  refine ⟨ok, by rw [ec]; exact e, fun eo a na => ?_, fun eo => lk.ex S1 H1 h1 σ1 s1 x cls d f1 m1 r1 rx (no eo)⟩
  have q := yes eo a d (m1.free na)
  rw [ec]
  refine ⟨S1, h1, _, _, m1, r1.set (rx.rep a) i, ?_, q⟩
  exact { nx := fun S2 H2 h2 σ2 s2 f2 m2 r2 q2 => lk.nx S2 H2 h2 _ _ (f1.trans f2) m2 (r2.unset i) q2, rt := fun S2 H2 h2 v u f2 m2 r2 q2 => lk.rt S2 H2 h2 _ _ (f1.trans f2) m2 r2 q2, bk := fun S2 H2 h2 σ2 s2 f2 m2 r2 q2 => lk.bk S2 H2 h2 _ _ (f1.trans f2) m2 (r2.unset i) q2, ct := fun S2 H2 h2 σ2 s2 f2 m2 r2 q2 => lk.ct S2 H2 h2 _ _ (f1.trans f2) m2 (r2.unset i) q2, ex := fun _ _ _ _ _ _ _ _ _ _ _ _ z => z.elim }

variable {a : Addr} {oe : Obj} {cls : Value} {d : Option Addr} {pn : List (Addr × Obj)}
def eXf (K : PySem.W.Frag) (a : Addr) (cls : Value) (d : Option Addr) (f : Str) (m : EM) : EM := fun s h Q E => ∃ C, XfC K C ∧ PySem.W.findIn K (.ref C) f = some none ∧ cls = .ref C ∧ m s h (fun x h1 => match x with
  | .exc a' _ d' gs => a' = a ∧ d' = d ∧ match gs.lookup f with
    | some t => Q t h1
    | none => False
  | _ => False) E
theorem j_xf {e : Expr} {m : EM} {pos : Pos} {f : Str} (hz : Zc cls d oe) (hf : ∃ vs, oe.data = .fields vs) (he : JE (X.suite a ((a, oe) :: pn)) W e m) (hb : attributeBase e f X.env (eval e X.env) = eval e X.env := by rfl) :
    JE (X.suite a ((a, oe) :: pn)) W (.Attribute e f pos) (eXf X.K a cls d f m) := ⟨fun pins s σ H Q' I ⟨S, h, s', Q, E, mm, rs, lk, ⟨C, hX, hno, hC, hm⟩, pk⟩ => (pe_xf hX hno hz hf he hb).run pins s σ H Q' I
  ⟨S, h, s', _, E, mm, rs, lk, hm, fun S1 H1 h1 v x f1 m1 r1 q1 => by
    cases r1 with
    | exc s1 e1 rf =>
      obtain ⟨q1, q2, q3⟩ := q1
      subst q1
      split at q3
      · rename_i t et
        obtain ⟨v, ev, rv⟩ := rf.look et
        exact ⟨rfl, hC, _, _, v, q2.symm, e1, ev, pk S1 H1 h1 _ _ f1 m1 rv q3⟩
      · exact q3.elim
    | exc0 =>
      obtain ⟨q1, q2, q3⟩ := q1
      exact q3.elim
    | _ => exact q1.elim⟩⟩
def rIs2 (K : PySem.W.Frag) (a : Addr) (cls : Value) (d : Option Addr) : List V → Hp → VK → Prop := fun xs H Q => ∃ (c D : Addr) (b : Bool), xs = [.ref a, .ref c] ∧ cls = .ref D ∧ ExcC K D ∧ PySem.W.kitOne K (.ref D) (.ref c) = some b ∧ (d = none ∨ ∃ dd fs, d = some dd ∧ H dd = some (.xd fs)) ∧ Q (.bl b) H
theorem call_is2 (hz : Zc cls d oe) (hf : ∃ vs, oe.data = .fields vs) : CallR (X.suite a ((a, oe) :: pn)) (.builtin "isinstance") (rIs2 X.K a cls d) := by
  intro pins s σ H xs us Q I r h
  obtain ⟨c, D, b, rfl, rfl, C, e, hd, q⟩ := h
  cases r with
  | cons rx rr =>
    cases rr with
    | cons rt rr =>
      cases rr
      cases rx
      cases rt
      obtain ⟨hget, _⟩ := I.pin (a, oe) (List.mem_append.mpr (.inl List.mem_cons_self))
      obtain ⟨vs, hv⟩ := hf
      have J : ∃ od, PySem.W.InstAt s.heap a oe D od := by
        obtain ⟨oc, od, oda, osl⟩ := oe
        obtain ⟨h1, h2⟩ := hz
        dsimp only at h1 h2 hv
        subst h1 h2 hv
        rcases hd with rfl | ⟨dd, fs, rfl, e2⟩
        · exact ⟨none, hget, rfl, rfl, trivial⟩
        · have hx : ObjOk X.prog X.w H s.heap dd (.xd fs) := I.hok dd _ e2
          obtain ⟨mA, hns, hr⟩ := hx
          obtain ⟨od, ho, hl⟩ := lookIn_ns hns
          exact ⟨some od, hget, rfl, rfl, ho⟩
      obtain ⟨od, J⟩ := J
      have hcl : (PySem.W.clsIn X.K D).isSome = true := by
        obtain ⟨cd, hc, _⟩ := PySem.W.any_some C.hd
        rw [hc]; rfl
      exact PySem.W.kia_one (PySem.W.kitx_exc hcl C.hg C.hk C.hs C.ha C.hn C.ht C.hm) I.kIn J e (fun z => nomatch z) fun tk => ⟨.bl b, H, I.kept (t' := tk) fun _ _ z => z, rfl, q⟩
def oIsE (K : PySem.W.Frag) (a : Addr) (cls : Value) (d : Option Addr) : RLT := fun xs h Q => match xs with
  | [.exc a' _ d' _, .ref c] => a' = a ∧ d' = d ∧ ∃ D b, cls = .ref D ∧ ExcC K D ∧ PySem.W.kitOne K (.ref D) (.ref c) = some b ∧ Q (.bl b) h
  | _ => False
theorem c_isE {K : PySem.W.Frag} : CP K (rIs2 K a cls d) (oIsE K a cls d) := fun S H h vs xs Q Q' m r q pk => by
  unfold oIsE at q
  split at q
  · obtain ⟨rfl, rfl, D, b, hC, C, e, q⟩ := q
    cases r with
    | cons r1 r =>
      cases r with
      | cons r2 r =>
        cases r
        cases r2
        cases r1 with
        | exc s1 e1 _ => exact ⟨_, D, b, rfl, hC, C, e, .inr ⟨_, _, rfl, e1⟩, pk S H h _ _ Fut.refl m (.bl b) q⟩
        | exc0 => exact ⟨_, D, b, rfl, hC, C, e, .inl rfl, pk S H h _ _ Fut.refl m (.bl b) q⟩
  · exact q.elim
theorem names_own {x : Str} {c : Addr} (hg : Gl X x) (hm : X.mg x = some (.ref c)) (hdb : (x == ("__debug__" : Str)) = false := by decide) : Names X x (.ref c) := ⟨hg, hdb, .inl hm⟩
end
end TL

namespace TL
open PySem L2
def putT (f : Str) (v : T) : List (Str × T) → List (Str × T)
  | [] => [(f, v)]
  | (g, x) :: r => if g = f then (g, v) :: r else (g, x) :: putT f v r
section
variable {K : PySem.W.Frag} {S : Fz} {H : Hp} {h : Hq}
theorem RepF.put {f : Str} {v : V} {t : T} (r : Rep K S H v t) : ∀ {fs : List (Str × V)} {gs : List (Str × T)}, RepF K S H fs gs → RepF K S H (putF f v fs) (putT f t gs)
  | _, _, .nil => .cons r .nil
  | _, _, .cons (f := g) q rest => by
    unfold putF putT
    split
    · exact .cons r rest
    · exact .cons q (RepF.put r rest)
theorem RepF.length : ∀ {fs : List (Str × V)} {gs : List (Str × T)}, RepF K S H fs gs → fs.length = gs.length
  | _, _, .nil => rfl
  | _, _, .cons _ q => congrArg (· + 1) (RepF.length q)
theorem RepF.nolook : ∀ {fs : List (Str × V)} {gs : List (Str × T)} {f : Str}, RepF K S H fs gs → gs.lookup f = none → fs.lookup f = none
  | _, _, _, .nil, e => rfl
  | _, _, f, .cons (f := g) r q, e => by
    rw [List.lookup_cons] at e ⊢
    cases z : f == g with
    | true => rw [z] at e; cases e
    | false => rw [z] at e; exact RepF.nolook q e
def insOf (h : Hq) (x : T) : Option (Addr × List (Str × T)) := match x with
  | .ins C gs => some (C, gs)
  | .ref p => match h p with
    | some (.ins C gs) => some (C, gs)
    | _ => none
  | _ => none
theorem insOf_ok (m : Sim K S H h) {v : V} {x : T} {C : Addr} {gs : List (Str × T)} (r : Rep K S H v x) (e : insOf h x = some (C, gs)) : ∃ a dx fs, v = .ref a ∧ H a = some (.ins C dx fs) ∧ RepF K S H fs gs := by
  cases r with
  | ins s hh q => cases e; exact ⟨_, _, _, rfl, hh, q⟩
  | ref a =>
    simp only [insOf] at e
    cases z : h a with
    | none => rw [z] at e; cases e
    | some o =>
      rw [z] at e
      cases o with
      | ins C' gs' =>
        cases e
        obtain ⟨u, e1, dx, fs, e2, r2⟩ := m.ob a _ z
        subst e2
        exact ⟨a, dx, fs, rfl, e1, r2⟩
      | lst _ => cases e
      | pool => cases e
      | dK _ => cases e
      | dT _ => cases e
      | tab _ => cases e
      | dL _ _ => cases e
  | _ => cases e
end

def eFld (C : Addr) (f : Str) (m : EM) : EM := fun s h Q E => m s h (fun x h1 => match insOf h1 x with
  | some (C', gs) => C' = C ∧ match gs.lookup f with
    | some t => Q t h1
    | none => False
  | none => False) E
section
variable {X : Cx} {W : WX} {C : Addr}
theorem j_fld {e : Expr} {m : EM} {f : Str} {pos : Pos} (c : Cls X.K C) (n : NoAttr X.K C f) (he : JE X W e m) (hb : attributeBase e f X.env (eval e X.env) = eval e X.env := by rfl) : JE X W (.Attribute e f pos) (eFld C f m) := PE.wk (pe_fld he hb) fun σ H Q' ⟨S, h, s, Q, E, mm, rs, lk, hm, pk⟩ =>
  ⟨S, h, s, _, E, mm, rs, lk, hm, fun S1 H1 h1 v x f1 m1 r1 q1 => by
    split at q1
    · rename_i C' gs e
      obtain ⟨rfl, q1⟩ := q1
      split at q1
      · rename_i t et
        obtain ⟨a, dx, fs, rfl, ea, rf⟩ := insOf_ok m1 r1 e
        obtain ⟨y, ey, ry⟩ := rf.look et
        exact ⟨a, C', dx, fs, y, rfl, ea, c, n, ey, pk S1 H1 h1 _ _ f1 m1 ry q1⟩
      · exact q1.elim
    · exact q1.elim⟩
def sFldT (C : Addr) (f : Str) (mo mv : EM) : SM := fun D s h => mv s h (fun y h1 => mo s h1 (fun x h2 => match x with
  | .ref p => match h2 p with
    | some (.ins C' gs) => C' = C ∧ gs.length < 1000 ∧ D.nx s (put h2 p (.ins C (putT f y gs)))
    | _ => False
  | _ => False) D.ex) D.ex
theorem js_fld {o e : Expr} {mo mv : EM} {f : Str} {pos pos' : Pos} (c : Cls X.K C) (n : NoAttr X.K C f) (ho : JE X W o mo) (hv : JE X W e mv) (hs : swapsWith e (some (.Attribute o f pos')) pos.line X.env = pure false := by rfl) : JS X W (.Assign [.Attribute o f pos'] e pos) (sFldT C f mo mv) := PS.wk (ps_fld ho hv hs) fun D' σ H ⟨S, h, s, D, m, rs, lk, hm⟩ =>
  ⟨S, h, s, _, D.ex, m, rs, lk.ex, hm, fun S1 H1 h1 v y f1 m1 r1 q1 => ⟨S1, h1, s, _, D.ex, m1, rs.fut f1, lk.ex.fut f1, q1, fun S2 H2 h2 w x f2 m2 r2 q2 => by
    split at q2
    · split at q2
      · rename_i p _ C' gs e
        obtain ⟨rfl, l, q2⟩ := q2
        cases r2
        obtain ⟨u, e1, dx, fs, e2, rf⟩ := m2.ob p _ e
        subst e2
        have f3 : Fut S2 H2 S2 (upd H2 p (.ins C' dx (putF f v fs))) := fut_upd (m2.nS' e)
        have f13 := (f1.trans f2).trans f3
        exact ⟨p, C', dx, fs, rfl, e1, c, n, by rw [rf.length]; exact l, lk.nx S2 _ _ σ s f13 (m2.write (o' := .ins C' (putT f y gs)) e ⟨dx, _, rfl, RepF.put (r1.fut f2) rf⟩) (rs.fut f13) q2⟩
      · exact q2.elim
    · exact q2.elim⟩⟩

def tMethW (C : Addr) (m : Str) (sp : Sp) (E : L2.St → XK) (ta : TE) (t : TA) : TE := fun σ H Q => ta σ H fun x H1 => ∃ a dx fs, x = .ref a ∧ H1 a = some (.ins C dx fs) ∧ fs.lookup m = none ∧ t σ H1 fun vs H2 => sp (x :: vs) H2 Q (E σ)
theorem pe_methW {CX : CXT} {k : Nat} {f : Addr} {fd : FuncData} {ps : List Str} {sp : Sp} {E : L2.St → XK} {m : Str} {o e : Expr} {es : List Expr} {ta : TE} {t : TA} {pos apos : Pos} {pl : Sem Bool} (he : PE X o ta) (c : Cls X.K C) (hm : Meth X.K C m f) (F : FnOk X.prog X.w X.K X.mg X.base CX k f fd ps sp) (hr : Room k X.A) (hb : Binds X.K fd ps []) (hx : ∀ σ, PassesAt CX X σ (E σ)) (ha : PA X (e :: es) t)
    (hst : starEach (e :: es) X.env = (false, eval e X.env) :: starEach es X.env) (hpl : (backTo pos (starEach es X.env)).any (·.1) = false)
    (ht : eval (.Call (.Attribute o m apos) (e :: es) [] pos) X.env = (do
      let ov ← eval o X.env
      standAt apos.atName
      let (f, first) ← holding [ov] (getMethod ov m pl)
      callWith pos f first (backTo pos (starEach (e :: es) X.env)) (backToKw pos (keywordEach [] X.env)))) :
    PE X (.Call (.Attribute o m apos) (e :: es) [] pos) (tMethW C m sp E ta t) := ⟨fun pins s σ H Q I h => by
  refine PySem.W.methodCall_KW (pl := pl) (thn (he.run pins s σ H _ I h) fun u s1 ⟨x, H1, I1, rx, a, dx, fs, ex, ea, l, q⟩ => ?_) ht
  subst ex
  obtain rfl : u = Value.ref a := rx
  refine getmeth_ok I1 ea c hm l (PySem.W.callWith_K (first := [.ref a]) (h₀ := X.base) I.ok.mod.kin hm.kp (thn (ha.run pos pins s1 σ H1 _ I1 q) fun us s2 ⟨vs, H2, I2, r, q2⟩ => ⟨I2.kIn, ?_⟩) hst hpl)
  exact run_fnS (us := .ref a :: us) (vs := .ref a :: vs) F hr hb (hx σ) I2 (.cons rfl r) q2⟩
theorem pe_methW0 {CX : CXT} {k : Nat} {f : Addr} {fd : FuncData} {ps : List Str} {sp : Sp} {E : L2.St → XK} {m : Str} {o : Expr} {ta : TE} {pos apos : Pos} {pl : Sem Bool} (he : PE X o ta) (c : Cls X.K C) (hm : Meth X.K C m f) (F : FnOk X.prog X.w X.K X.mg X.base CX k f fd ps sp) (hr : Room k X.A) (hb : Binds X.K fd ps []) (hx : ∀ σ, PassesAt CX X σ (E σ))
    (ht : eval (.Call (.Attribute o m apos) [] [] pos) X.env = (do
      let ov ← eval o X.env
      standAt apos.atName
      let (f, first) ← holding [ov] (getMethod ov m pl)
      callWith pos f first (backTo pos (starEach [] X.env)) (backToKw pos (keywordEach [] X.env)))) :
    PE X (.Call (.Attribute o m apos) [] [] pos) (tMethW C m sp E ta tNil) := ⟨fun pins s σ H Q I h => by
  refine PySem.W.methodCall_KW (pl := pl) (thn (he.run pins s σ H _ I h) fun u s1 ⟨x, H1, I1, rx, a, dx, fs, ex, ea, l, q⟩ => ?_) ht
  subst ex
  obtain rfl : u = Value.ref a := rx
  exact getmeth_ok I1 ea c hm l (PySem.W.callWith_K0 (first := [.ref a]) I1.kIn hm.kp (run_fnS (us := [.ref a]) (vs := [.ref a]) F hr hb (hx σ) I1 (.cons rfl .nil) q))⟩
def eMeth (C : Addr) (nm : Str) (n : Nat) (c : Con) (mo : EM) (ma : AM) : EM := fun s h Q E => mo s h (fun x h1 => match insOf h1 x with
  | some (C', gs) => C' = C ∧ gs.lookup nm = none ∧ ma s h1 (fun ts h2 => ts.length + 1 = n ∧ c (x :: ts) h2 Q fun y h3 => E y s h3) E
  | none => False) E
theorem lift_meth {K : PySem.W.Frag} {nm : Str} {n : Nat} {c : Con} {mo : EM} {ma : AM} : ∀ σ H Q, liftE K W (eMeth C nm n c mo ma) σ H Q → tMethW C nm (liftSp K n c) (WE W) (liftE K W mo) (liftA K W ma) σ H Q := fun σ H Q' ⟨S, h, s, Q, E, mm, rs, lk, hm, pk⟩ =>
  ⟨S, h, s, _, E, mm, rs, lk, hm, fun S1 H1 h1 v x f1 m1 r1 q1 => by
    split at q1
    · rename_i C' gs e
      obtain ⟨rfl, l, q1⟩ := q1
      obtain ⟨a, dx, fs, rfl, ea, rf⟩ := insOf_ok m1 r1 e
      exact ⟨a, dx, fs, rfl, ea, rf.nolook l, S1, h1, s, _, E, m1, rs.fut f1, lk.fut f1, q1, fun S2 H2 h2 vs ts f2 m2 r2 ⟨l2, q2⟩ => ⟨S2, h2, x :: ts, Q, _, m2, .cons (r1.fut f2) r2, l2, q2, pk.fut (f1.trans f2), fun S3 H3 h3 y cls d f3 m3 r3 q3 => lk S3 H3 h3 σ s y cls d ((f1.trans f2).trans f3) m3 (rs.fut ((f1.trans f2).trans f3)) r3 q3⟩⟩
    · exact q1.elim⟩
theorem j_meth {CX : CXT} {k n : Nat} {f : Addr} {fd : FuncData} {ps : List Str} {c : Con} {m : Str} {o e : Expr} {es : List Expr} {mo : EM} {ma : AM} {pos apos : Pos} {pl : Sem Bool} (cl : Cls X.K C) (hm : Meth X.K C m f) (F : FnOk X.prog X.w X.K X.mg X.base CX k f fd ps (liftSp X.K n c)) (hr : Room k X.A) (hb : Binds X.K fd ps []) (hx : ∀ σ, PassesAt CX X σ (WE W σ)) (he : JE X W o mo) (ha : JA X W (e :: es) ma)
    (hst : starEach (e :: es) X.env = (false, eval e X.env) :: starEach es X.env := by rfl) (hpl : (backTo pos (starEach es X.env)).any (·.1) = false := by rfl)
    (ht : eval (.Call (.Attribute o m apos) (e :: es) [] pos) X.env = (do
      let ov ← eval o X.env
      standAt apos.atName
      let (f, first) ← holding [ov] (getMethod ov m pl)
      callWith pos f first (backTo pos (starEach (e :: es) X.env)) (backToKw pos (keywordEach [] X.env))) := by rfl) :
    JE X W (.Call (.Attribute o m apos) (e :: es) [] pos) (eMeth C m n c mo ma) := PE.wk (pe_methW he cl hm F hr hb hx ha hst hpl ht) lift_meth
theorem j_meth0 {CX : CXT} {k n : Nat} {f : Addr} {fd : FuncData} {ps : List Str} {c : Con} {m : Str} {o : Expr} {mo : EM} {pos apos : Pos} {pl : Sem Bool} (cl : Cls X.K C) (hm : Meth X.K C m f) (F : FnOk X.prog X.w X.K X.mg X.base CX k f fd ps (liftSp X.K n c)) (hr : Room k X.A) (hb : Binds X.K fd ps []) (hx : ∀ σ, PassesAt CX X σ (WE W σ)) (he : JE X W o mo)
    (ht : eval (.Call (.Attribute o m apos) [] [] pos) X.env = (do
      let ov ← eval o X.env
      standAt apos.atName
      let (f, first) ← holding [ov] (getMethod ov m pl)
      callWith pos f first (backTo pos (starEach [] X.env)) (backToKw pos (keywordEach [] X.env))) := by rfl) :
    JE X W (.Call (.Attribute o m apos) [] [] pos) (eMeth C m n c mo aNil) := PE.wk (pe_methW0 he cl hm F hr hb hx ht) fun σ H Q' q => by
  obtain ⟨S, h, s, Q, E, mm, rs, lk, hm, pk⟩ := lift_meth σ H Q' q
  exact ⟨S, h, s, Q, E, mm, rs, lk, hm, fun S1 H1 h1 v u f1 m1 r1 q1 => by
    obtain ⟨a, dx, fs, e1, e2, e3, q2⟩ := pk S1 H1 h1 v u f1 m1 r1 q1
    obtain ⟨S2, h2, s2, Q2, E2, m2, rs2, lk2, hm2, pk2⟩ := q2
    exact ⟨a, dx, fs, e1, e2, e3, pk2 S2 H1 h2 [] [] Fut.refl m2 .nil hm2⟩⟩
def eProp (C : Addr) (c : Con) (mo : EM) : EM := fun s h Q E => mo s h (fun x h1 => match insOf h1 x with
  | some (C', _) => C' = C ∧ c [x] h1 Q fun _ _ => False
  | none => False) E
theorem j_prop {P : Program} {w : World} {k : Nat} {p g : Addr} {fd : FuncData} {ps : List Str} {c : Con} {f : Str} {o : Expr} {mo : EM} {pos : Pos} (hP : X.prog = P) (hw : X.w = w) (cl : Cls X.K C) (hp : PropOf X.K C f p g) (F : FnOk X.prog X.w X.K X.mg X.base (L2.CX P w) k g fd ps (liftSp X.K 1 c)) (hr : Room (k + 1) X.A) (hb : Binds X.K fd ps []) (he : JE X W o mo)
    (hab : attributeBase o f X.env (eval o X.env) = eval o X.env := by rfl) : JE X W (.Attribute o f pos) (eProp C c mo) := PE.wk (pe_prop (E := fun _ _ _ => False) he cl hp F hr hb .nil noPass hab) fun σ H Q' ⟨S, h, s, Q, E, mm, rs, lk, hm, pk⟩ =>
  ⟨S, h, s, _, E, mm, rs, lk, hm, fun S1 H1 h1 v x f1 m1 r1 q1 => by
    split at q1
    · rename_i C' gs e
      obtain ⟨rfl, q1⟩ := q1
      obtain ⟨a, dx, fs, rfl, ea, rf⟩ := insOf_ok m1 r1 e
      exact ⟨a, dx, fs, rfl, ea, S1, h1, [x], Q, _, m1, .cons r1 .nil, rfl, q1, pk.fut f1, fun _ _ _ _ _ _ _ _ _ z => z.elim⟩
    · exact q1.elim⟩

def tMakeW (C : Addr) (n m : Nat) (sp : Sp) (E : L2.St → XK) (t tk : TA) : TE := fun σ H Q => t σ H fun vs H1 => tk σ H1 fun zs H2 => vs.length = n ∧ zs.length = m ∧ ∀ x dx, H2 x = none → H2 dx = none → dx ≠ x →
  sp (.ref x :: (vs ++ zs)) (upd (upd H2 dx (.own x)) x (.ins C dx [])) (fun v H3 => v = .non ∧ Q (.ref x) H3) (E σ)
def KBw (K : PySem.W.Frag) (fd : FuncData) (ps : List Str) (n : Nat) (ks : List Str) : Prop := ∀ (s : Shared) (us ws : List Value), K.In s.heap → us.length = n → ws.length = ks.length → BindsTo s fd ⟨us, ks.zip ws⟩ (ps.zip (us ++ ws))
theorem _root_.L2.Fun.kbw {K : PySem.W.Frag} {x qual : Str} {st : Stmt} {f : Addr} {fd : FuncData} {ps ks : List Str} {n : Nat} (F : Fun K x qual st f fd)
    (h : ∀ (kV doc pm : Value) (an : Option Addr) (cdv ct : Value) (us ws : List Value), us.length = n → ws.length = ks.length → bindArgs (PySem.W.fnOf x qual (defArgs st) (defBody st) (defScope st) .none kV doc pm an cdv ct) ⟨us, ks.zip ws⟩ = pure (ps.zip (us ++ ws))) : KBw K fd ps n ks := by
  obtain ⟨oc, od, kV, doc, pm, an, cdv, ct, osl, rfl, lk, hcd⟩ := F.ex
  exact fun s us ws _ l1 l2 => .of_eq (h kV doc pm an cdv ct us ws l1 l2)
theorem run_makeW {CX : CXT} {k n : Nat} {f : Addr} {fd : FuncData} {ps ks : List Str} {sp : Sp} {E : XK} {pins : List (Addr × Obj)} {σ : L2.St} {H : Hp} {s : Shared} {Q : VK} {us ws : List Value} {vs zs : List V} (M : Mk X.K C f) (F : FnOk X.prog X.w X.K X.mg X.base CX k f fd ps sp) (hr : Room (k + 1) X.A) (hb : KBw X.K fd ps (n + 1) ks) (hx : PassesAt CX X σ E)
    (I : Inv X pins σ H s) (r : Vals vs us) (rz : Vals zs ws) (l1 : vs.length = n) (l2 : zs.length = ks.length)
    (h : ∀ x dx, H x = none → H dx = none → dx ≠ x → sp (.ref x :: (vs ++ zs)) (upd (upd H dx (.own x)) x (.ins C dx [])) (fun v H2 => v = .non ∧ Q (.ref x) H2) E) :
    wpAny (model X.prog X.w) X.A (call (.ref C) us (ks.zip ws)) (EP X pins σ Q) X.xe s := by
  have hq := h (s.heap.objs.size + 1) s.heap.objs.size (I.hok.fresh (Nat.le_succ _)) (I.hok.fresh (Nat.le_refl _)) (Nat.ne_of_lt (Nat.lt_succ_self _))
  have I2 := Inv.made (C := C) I
  have r2 : Vals (V.ref (s.heap.objs.size + 1) :: (vs ++ zs)) (Value.ref (s.heap.objs.size + 1) :: (us ++ ws)) := .cons rfl (r.append rz)
  have n1 : (Value.ref (s.heap.objs.size + 1) :: us).length = n + 1 := by rw [List.length_cons, ← r.length, l1]
  have bd := hb _ (Value.ref (s.heap.objs.size + 1) :: us) ws I2.kIn n1 (rz.length.symm.trans l2)
  refine wpAny_call (make_map (f := f) I.kIn M.makes M.init (beq_iff_eq.mp M.fn) (codeAny_mono (F.run _ X.stack _ _ _ _ _ _ E (hr.make C us (ks.zip ws)) (I2.env0.make C us (ks.zip ws)) bd r2 hq) fun o s' hq' => ?_))
  rcases o with e | (u | _ | _ | _)
  · exact hx pins _ _ e s' I2 hq'
  all_goals first
    | exact False.elim hq'
    | (obtain ⟨v, H', I3, rv, ev, q3⟩ := I2.after hq'
       subst ev
       exact ⟨rv, ⟨V.ref (s.heap.objs.size + 1), H', I3, rfl, q3⟩⟩)
def JK (X : Cx) (W : WX) (kws : List Keyword) (m : AM) : Prop := L2.PK X kws (liftA X.K W m)
theorem jk_nil : JK X W [] aNil := ⟨fun pos pins s σ H Q' I ⟨S, h, t, Q, E, m, rs, lk, hm, pk⟩ => (pk_nil (X := X)).run pos pins s σ H Q' I (pk S H h [] [] Fut.refl m .nil hm)⟩
theorem jk_cons {e : Expr} {m : EM} {r : AM} {kws : List Keyword} {nm : Option Str} {kpos : Pos} (he : JE X W e m) (hr : JK X W kws r) : JK X W (⟨nm, e, kpos⟩ :: kws) (aCons m r) := ⟨fun pos pins s σ H Q' I ⟨S, h, t, Q, E, m, rs, lk, hm, pk⟩ => (pk_cons he hr).run pos pins s σ H Q' I
  ⟨S, h, t, _, E, m, rs, lk, hm, fun S1 H1 h1 v x f1 m1 r1 q1 => ⟨S1, h1, t, _, E, m1, rs.fut f1, lk.fut f1, q1, fun S2 H2 h2 vs xs f2 m2 r2 q2 => pk S2 H2 h2 _ _ (f1.trans f2) m2 (.cons (r1.fut f2) r2) q2⟩⟩⟩
theorem pe_makeW {CX : CXT} {k n : Nat} {f : Addr} {fd : FuncData} {ps ks : List Str} {sp : Sp} {E : L2.St → XK} {x : Str} {p pos : Pos} {e : Expr} {es : List Expr} {kws : List Keyword} {t tk : TA} (M : Mk X.K C f) (F : FnOk X.prog X.w X.K X.mg X.base CX k f fd ps sp) (hr : Room (k + 1) X.A) (hg : Gl X x) (hm : X.mg x = some (.ref C)) (hb : KBw X.K fd ps (n + 1) ks) (hx : ∀ σ, PassesAt CX X σ (E σ)) (ha : PA X (e :: es) t) (hkw : L2.PK X kws tk)
    (hall : (backToKw pos (keywordEach kws X.env)).all (·.1.isSome) = true) (hks : (backToKw pos (keywordEach kws X.env)).filterMap (·.1) = ks) (hdb : (x == ("__debug__" : Str)) = false)
    (he : starEach (e :: es) X.env = (false, eval e X.env) :: starEach es X.env) (hpl : ((backTo pos (starEach (e :: es) X.env)).any (·.1) || (backToKw pos (keywordEach kws X.env)).any (·.1.isNone)) = false) :
    PE X (.Call (.Name x p) (e :: es) kws pos) (tMakeW C n ks.length sp E t tk) := ⟨fun pins s σ H Q I h => by
  refine wpAny_Call_Name_kw (ld_glob I hg hm (PySem.W.callWith_KW (h₀ := X.base) I.ok.mod.kin M.kp hall (thn (ha.run pos pins s σ H _ I h) fun us s1 ⟨vs, H1, I1, r, q⟩ => ?_) hpl he) hdb)
  refine thn (hkw.run pos pins s1 σ H1 _ I1 q) fun ws s2 ⟨zs, H2, I2, rz, l1, l2, q2⟩ => ⟨I2.kIn, ?_⟩
  rw [hks]
  exact run_makeW M F hr hb (hx σ) I2 r rz l1 l2 q2⟩
def eMake (C : Addr) (n m : Nat) (c : Con) (ma mk : AM) : EM := fun s h Q E => ma s h (fun ts h1 => mk s h1 (fun zs h2 => ts.length = n ∧ zs.length = m ∧ ∀ p, h2 p = none → c (.ref p :: (ts ++ zs)) (put h2 p (.ins C [])) (fun v h3 => v = .non ∧ Q (.ref p) h3) fun y h3 => E y s h3) E) E
theorem j_make {CX : CXT} {k n nn mm : Nat} {f : Addr} {fd : FuncData} {ps ks : List Str} {c : Con} {x : Str} {p pos : Pos} {e : Expr} {es : List Expr} {kws : List Keyword} {ma mk : AM} (M : Mk X.K C f) (F : FnOk X.prog X.w X.K X.mg X.base CX k f fd ps (liftSp X.K nn c)) (hr : Room (k + 1) X.A) (hg : Gl X x) (hm : X.mg x = some (.ref C)) (hb : KBw X.K fd ps (n + 1) ks) (hx : ∀ σ, PassesAt CX X σ (WE W σ)) (ha : JA X W (e :: es) ma) (hkw : JK X W kws mk) (hmm : ks.length = mm := by rfl) (hnn : nn = 1 + (n + mm) := by rfl)
    (hall : (backToKw pos (keywordEach kws X.env)).all (·.1.isSome) = true := by rfl) (hks : (backToKw pos (keywordEach kws X.env)).filterMap (·.1) = ks := by rfl) (hdb : (x == ("__debug__" : Str)) = false := by decide)
    (he : starEach (e :: es) X.env = (false, eval e X.env) :: starEach es X.env := by rfl) (hpl : ((backTo pos (starEach (e :: es) X.env)).any (·.1) || (backToKw pos (keywordEach kws X.env)).any (·.1.isNone)) = false := by rfl) :
    JE X W (.Call (.Name x p) (e :: es) kws pos) (eMake C n mm c ma mk) := PE.wk (pe_makeW M F hr hg hm hb hx ha hkw hall hks hdb he hpl) fun σ H Q' ⟨S, h, s, Q, E, mm, rs, lk, hm, pk⟩ =>
  ⟨S, h, s, _, E, mm, rs, lk, hm, fun S1 H1 h1 vs ts f1 m1 r1 q1 => ⟨S1, h1, s, _, E, m1, rs.fut f1, lk.fut f1, q1, fun S2 H2 h2 zs us f2 m2 r2 ⟨l1, l2, q2⟩ => ⟨by rw [r1.length]; exact l1, by rw [r2.length, hmm]; exact l2, fun x dx nx nd ne => by
    have f12 := f1.trans f2
    have m3 : Sim X.K S2 (upd H2 dx (.own x)) h2 := m2.side nd
    have nx' : upd H2 dx (.own x) x = none := by rw [upd_ne (Ne.symm ne)]; exact nx
    have f3 : Fut S2 H2 S2 (upd (upd H2 dx (.own x)) x (.ins C dx [])) := (fut_upd (m2.nS nd)).trans (fut_upd (m3.nS nx'))
    have m4 : Sim X.K S2 (upd (upd H2 dx (.own x)) x (.ins C dx [])) (put h2 x (.ins C [])) := m3.new nx' ⟨dx, [], rfl, .nil⟩
    refine ⟨S2, _, .ref x :: (ts ++ us), _, _, m4, .cons (.ref x) ((r1.fut (f2.trans f3)).append (r2.fut f3)), ?_, q2 x (m2.free nx), ?_, ?_⟩
    · show (ts ++ us).length + 1 = _
      rw [List.length_append, l1, l2, hnn]; omega
    · intro S5 H5 h5 v u f5 m5 r5 ⟨e5, q5⟩
      subst e5
      cases r5
      exact ⟨rfl, pk S5 H5 h5 _ _ (f12.trans (f3.trans f5)) m5 (.ref x) q5⟩
    · intro S5 H5 h5 y cls d f5 m5 r5 q5
      exact lk S5 H5 h5 σ s y cls d (f12.trans (f3.trans f5)) m5 (rs.fut (f12.trans (f3.trans f5))) r5 q5⟩⟩⟩
def sPar3 (i j l : Nat) (a : AM) : SM := fun D s h => a s h (fun ts h1 => match ts with
  | [x, y, z] => D.nx (((s.set i (some x)).set j (some y)).set l (some z)) h1
  | _ => False) D.ex
theorem js_par3 {i j l : Nat} {x y z : Str} {a b c : Expr} {m : AM} {px py pz pt pos : Pos} {kt k2 pt2} (hc : X.calm = true) (hN : X.N.Nodup) (hi : X.N[i]? = some x) (hj : X.N[j]? = some y) (hl : X.N[l]? = some z) (hij : i ≠ j) (hil : i ≠ l) (hjl : j ≠ l)
    (hx : X.env.scope.names.lookup x = some .local) (hy : X.env.scope.names.lookup y = some .local) (hz : X.env.scope.names.lookup z = some .local) (ha : JA X W [a, b, c] m)
    (hw : swappedStores [.Tuple [.Name x px, .Name y py, .Name z pz] kt pt] (.Tuple [a, b, c] k2 pt2) X.env = pure (some [x, y, z]))
    (hs : swapsWithSole [.Tuple [.Name x px, .Name y py, .Name z pz] kt pt] (.Tuple [a, b, c] k2 pt2) pos.line X.env = pure false := by rfl) :
    JS X W (.Assign [.Tuple [.Name x px, .Name y py, .Name z pz] kt pt] (.Tuple [a, b, c] k2 pt2) pos) (sPar3 i j l m) := PS.wk (ps_par3 hc hN hi hj hl hij hil hjl hx hy hz ha hw hs) fun D' σ H ⟨S, h, s, D, m, rs, lk, hm⟩ =>
  ⟨S, h, s, _, D.ex, m, rs, lk.ex, hm, fun S1 H1 h1 vs ts f1 m1 r1 q1 => by
    split at q1
    · cases r1 with
      | cons ra rn => cases rn with
        | cons rb rn => cases rn with
          | cons rc rn => cases rn; exact ⟨_, _, _, rfl, lk.nx S1 H1 h1 _ _ f1 m1 ((((rs.fut f1).set ra i).set rb j).set rc l) q1⟩
    · exact q1.elim⟩
end
end TL

namespace TL
open PySem L2
theorem vals_pick {xs : List V} {us : List Value} (r : Vals xs us) : ∀ idx : List Nat, Vals (idx.filterMap fun i => xs[i]?) (idx.filterMap fun i => us[i]?)
  | [] => .nil
  | i :: idx => by
    rw [List.filterMap_cons, List.filterMap_cons]
    cases e : xs[i]? with
    | none =>
      have : us[i]? = none := by
        have l := r.length
        have := List.getElem?_eq_none_iff.mp e
        exact List.getElem?_eq_none_iff.mpr (by omega)
      rw [this]
      exact vals_pick r idx
    | some x =>
      obtain ⟨u, e2, r2⟩ := r.get e
      rw [e2]
      exact .cons r2 (vals_pick r idx)
theorem repL_pick {K : PySem.W.Frag} {S : Fz} {H : Hp} {vs : List V} {ts : List T} (r : RepL K S H vs ts) : ∀ idx : List Nat, RepL K S H (idx.filterMap fun i => vs[i]?) (idx.filterMap fun i => ts[i]?)
  | [] => .nil
  | i :: idx => by
    rw [List.filterMap_cons, List.filterMap_cons]
    cases e : ts[i]? with
    | none =>
      have : vs[i]? = none := by
        have l := r.length
        have := List.getElem?_eq_none_iff.mp e
        exact List.getElem?_eq_none_iff.mpr (by omega)
      rw [this]
      exact repL_pick r idx
    | some x =>
      obtain ⟨u, e2, r2⟩ := r.get e
      rw [e2]
      exact .cons r2 (repL_pick r idx)
structure KBt (K : PySem.W.Frag) (fd : FuncData) (ps : List Str) (n : Nat) (ks : List Str) (gT : List T → List T → List T) : Prop where
  ex : ∃ g gV, KBn K fd ps n ks g gV ∧ ∀ S H vs zs ts us, RepL K S H vs ts → RepL K S H zs us → ts.length = n → us.length = ks.length → RepL K S H (gV vs zs) (gT ts us)
theorem kbt_of {K : PySem.W.Frag} {x qual : Str} {params : Arguments} {body : List Stmt} {scope : Scope} {kws : List (Str × V)} {f : Addr} {fd : FuncData} {ps : List Str} (F : FunD K x qual params body scope [] kws f fd) (n : Nat) (ks : List Str) (ms : List (Str × V)) (ds : List T) (idx : List Nat) (gT : List T → List T → List T)
    (hk : kws ≠ []) (hms : ∀ q ∈ ms, q ∈ kws) (hds : ∀ S H, RepL K S H (ms.map (·.2)) ds) (hg : ∀ ts us, ts.length = n → us.length = ks.length → gT ts us = ts ++ idx.filterMap fun i => (ds ++ us)[i]?)
    (h : ∀ (D : Addr) (doc pm : Value) (an : Option Addr) (cdv ct : Value) (us mv ws : List Value), us.length = n → mv.length = ms.length → ws.length = ks.length →
      KwChain D ((ms.map (·.1)).zip mv) (bindArgs (PySem.W.fnOf x qual params body scope .none (.ref D) doc pm an cdv ct) ⟨us, ks.zip ws⟩) (ps.zip (us ++ idx.filterMap fun i => (mv ++ ws)[i]?))) : KBt K fd ps n ks gT := by
  obtain ⟨mv, hb⟩ := F.kbinds0 n ks ms (fun {α} us mv ws => us ++ idx.filterMap fun i => (mv ++ ws)[i]?) hk hms (fun r1 r2 r3 => r1.append (vals_pick (r2.append r3) idx)) h
  refine ⟨_, _, hb, fun S H vs zs ts us r1 r2 l1 l2 => ?_⟩
  rw [hg ts us l1 l2]
  exact r1.append (repL_pick ((hds S H).append r2) idx)
theorem funD_of {K : PySem.W.Frag} {x qual : Str} {st : Stmt} {f : Addr} {oc : Value} {od an : Option Addr} {osl : Array (Option Value)} {D : Addr} {doc pm cdv ct : Value} {kws : List (Str × V)} (l : K.lookup f = some ⟨oc, od, .func (PySem.W.fnOf x qual (defArgs st) (defBody st) (defScope st) .none (.ref D) doc pm an cdv ct), osl⟩)
    (c : PySem.W.codeIn K cdv qual = true) (k : PySem.W.keepIn K (.ref f) = true) (h : ∀ q ∈ kws, ∃ u, PySem.W.nsIn K D q.1 = some (some u) ∧ RelV q.2 u) : FunD K x qual (defArgs st) (defBody st) (defScope st) [] kws f (PySem.W.fnOf x qual (defArgs st) (defBody st) (defScope st) .none (.ref D) doc pm an cdv ct) :=
  ⟨⟨oc, od, .none, .ref D, doc, pm, an, cdv, ct, osl, rfl, l, c, .inl ⟨rfl, rfl⟩, .inr ⟨D, rfl, h⟩⟩, k⟩
section
variable {X : Cx} {W : WX}
theorem run_fnK {CX : CXT} {k n : Nat} {f : Addr} {fd : FuncData} {ps ks : List Str} {sp : Sp} {E : XK} {g : List Value → List Value → List Value} {gV : List V → List V → List V} {pins : List (Addr × Obj)} {σ : L2.St} {H : Hp} {s : Shared} {Q : VK} {us ws : List Value} {vs zs : List V} (F : FnOk X.prog X.w X.K X.mg X.base CX k f fd ps sp) (hr : Room k X.A) (hb : KBn X.K fd ps n ks g gV) (hx : PassesAt CX X σ E)
    (I : Inv X pins σ H s) (r : Vals vs us) (rz : Vals zs ws) (l1 : vs.length = n) (l2 : zs.length = ks.length) (h : sp (gV vs zs) H Q E) : wpAny (model X.prog X.w) X.A (call (.ref f) us (ks.zip ws)) (EP X pins σ Q) X.xe s := by
  have r2 := hb.rel r rz
  refine wpAny_call (codeAny_mono (F.run X.A X.stack s H ⟨us, ks.zip ws⟩ (g us ws) (gV vs zs) Q E hr I.env0 (hb.to s us ws I.kIn (r.length.symm.trans l1) (rz.length.symm.trans l2)) r2 h) fun r s' hq => ?_)
  cases r with
  | error e => exact hx pins H s e s' I hq
  | ok fl =>
    cases fl with
    | ret u => exact I.after hq
    | next => exact False.elim hq
    | brk => exact False.elim hq
    | cont => exact False.elim hq
def tCallK (n m : Nat) (sp : Sp) (gV : List V → List V → List V) (E : L2.St → XK) (t tk : TA) : TE := fun σ H Q => t σ H fun vs H1 => tk σ H1 fun zs H2 => vs.length = n ∧ zs.length = m ∧ sp (gV vs zs) H2 Q (E σ)
theorem pe_callK {CX : CXT} {k n : Nat} {f : Addr} {fd : FuncData} {ps ks : List Str} {sp : Sp} {E : L2.St → XK} {g : List Value → List Value → List Value} {gV : List V → List V → List V} {x : Str} {p pos : Pos} {e : Expr} {es : List Expr} {kws : List Keyword} {t tk : TA} (F : FnOk X.prog X.w X.K X.mg X.base CX k f fd ps sp) (hr : Room k X.A) (hg : Gl X x) (hm : X.mg x = some (.ref f)) (hk : PySem.W.keepIn X.K (.ref f) = true) (hb : KBn X.K fd ps n ks g gV) (hx : ∀ σ, PassesAt CX X σ (E σ))
    (ha : PA X (e :: es) t) (hkw : L2.PK X kws tk) (hall : (backToKw pos (keywordEach kws X.env)).all (·.1.isSome) = true) (hks : (backToKw pos (keywordEach kws X.env)).filterMap (·.1) = ks)
    (hdb : (x == ("__debug__" : Str)) = false) (he : starEach (e :: es) X.env = (false, eval e X.env) :: starEach es X.env)
    (hpl : ((backTo pos (starEach (e :: es) X.env)).any (·.1) || (backToKw pos (keywordEach kws X.env)).any (·.1.isNone)) = false) :
    PE X (.Call (.Name x p) (e :: es) kws pos) (tCallK n ks.length sp gV E t tk) := by
  refine ⟨fun pins s σ H Q I h => ?_⟩
  refine wpAny_Call_Name_kw (ld_glob I hg hm ?_ hdb)
  refine PySem.W.callWith_KW (h₀ := X.base) I.ok.mod.kin hk hall (thn (ha.run pos pins s σ H _ I h) fun us s1 ⟨vs, H1, I1, r, q⟩ => ?_) hpl he
  refine thn (hkw.run pos pins s1 σ H1 _ I1 q) fun ws s2 ⟨zs, H2, I2, rz, l1, l2, q2⟩ => ⟨I2.kIn, ?_⟩
  rw [hks]
  exact run_fnK F hr hb (hx σ) I2 r rz l1 l2 q2
def eCallK (n m N : Nat) (gT : List T → List T → List T) (c : Con) (ma mk : AM) : EM := fun s h Q E => ma s h (fun ts h1 => mk s h1 (fun zs h2 => ts.length = n ∧ zs.length = m ∧ (gT ts zs).length = N ∧ c (gT ts zs) h2 Q fun x h3 => E x s h3) E) E
theorem j_callK {CX : CXT} {k n m N : Nat} {f : Addr} {fd : FuncData} {ps ks : List Str} {c : Con} {gT : List T → List T → List T} {x : Str} {p pos : Pos} {e : Expr} {es : List Expr} {kws : List Keyword} {ma mk : AM} (F : FnOk X.prog X.w X.K X.mg X.base CX k f fd ps (liftSp X.K N c)) (hr : Room k X.A) (hg : Gl X x) (hm : X.mg x = some (.ref f)) (hk : PySem.W.keepIn X.K (.ref f) = true) (hb : KBt X.K fd ps n ks gT) (hx : ∀ σ, PassesAt CX X σ (WE W σ))
    (ha : JA X W (e :: es) ma) (hkw : JK X W kws mk) (hmm : ks.length = m := by rfl) (hall : (backToKw pos (keywordEach kws X.env)).all (·.1.isSome) = true := by rfl) (hks : (backToKw pos (keywordEach kws X.env)).filterMap (·.1) = ks := by rfl)
    (hdb : (x == ("__debug__" : Str)) = false := by decide) (he : starEach (e :: es) X.env = (false, eval e X.env) :: starEach es X.env := by rfl)
    (hpl : ((backTo pos (starEach (e :: es) X.env)).any (·.1) || (backToKw pos (keywordEach kws X.env)).any (·.1.isNone)) = false := by rfl) :
    JE X W (.Call (.Name x p) (e :: es) kws pos) (eCallK n m N gT c ma mk) := by
  obtain ⟨g, gV, hb, hrep⟩ := hb.ex
  exact PE.wk (pe_callK (E := WE W) F hr hg hm hk hb hx ha hkw hall hks hdb he hpl) fun σ H Q' ⟨S, h, s, Q, E, mm, rs, lk, hm, pk⟩ =>
    ⟨S, h, s, _, E, mm, rs, lk, hm, fun S1 H1 h1 vs ts f1 m1 r1 q1 => ⟨S1, h1, s, _, E, m1, rs.fut f1, lk.fut f1, q1, fun S2 H2 h2 zs us f2 m2 r2 ⟨l1, l2, l3, q2⟩ =>
      ⟨by rw [r1.length]; exact l1, by rw [r2.length, hmm]; exact l2, S2, h2, _, Q, _, m2, hrep S2 H2 vs zs ts us (r1.fut f2) r2 l1 (l2.trans hmm.symm), l3, q2, pk.fut (f1.trans f2), fun S3 H3 h3 x cls d f3 m3 r3 q3 => lk S3 H3 h3 σ s x cls d ((f1.trans f2).trans f3) m3 (rs.fut ((f1.trans f2).trans f3)) r3 q3⟩⟩⟩
theorem run_makeX {C : Addr} {CX : CXT} {k n : Nat} {f : Addr} {fd : FuncData} {ps ks : List Str} {sp : Sp} {E : XK} {g : List Value → List Value → List Value} {gV : List V → List V → List V} {pins : List (Addr × Obj)} {σ : L2.St} {H : Hp} {s : Shared} {Q : VK} {us ws : List Value} {vs zs : List V} (M : Mk X.K C f) (F : FnOk X.prog X.w X.K X.mg X.base CX k f fd ps sp) (hr : Room (k + 1) X.A) (hb : KBn X.K fd ps (n + 1) ks g gV) (hx : PassesAt CX X σ E)
    (I : Inv X pins σ H s) (r : Vals vs us) (rz : Vals zs ws) (l1 : vs.length = n) (l2 : zs.length = ks.length)
    (h : ∀ x dx, H x = none → H dx = none → dx ≠ x → sp (gV (.ref x :: vs) zs) (upd (upd H dx (.own x)) x (.ins C dx [])) (fun v H2 => v = .non ∧ Q (.ref x) H2) E) :
    wpAny (model X.prog X.w) X.A (call (.ref C) us (ks.zip ws)) (EP X pins σ Q) X.xe s := by
  have hq := h (s.heap.objs.size + 1) s.heap.objs.size (I.hok.fresh (Nat.le_succ _)) (I.hok.fresh (Nat.le_refl _)) (Nat.ne_of_lt (Nat.lt_succ_self _))
  have I2 := Inv.made (C := C) I
  have r1 : Vals (V.ref (s.heap.objs.size + 1) :: vs) (Value.ref (s.heap.objs.size + 1) :: us) := .cons rfl r
  have r2 := hb.rel r1 rz
  have n1 : (Value.ref (s.heap.objs.size + 1) :: us).length = n + 1 := by rw [List.length_cons, ← r.length, l1]
  have bd := hb.to _ (Value.ref (s.heap.objs.size + 1) :: us) ws I2.kIn n1 (rz.length.symm.trans l2)
  refine wpAny_call (make_map (f := f) I.kIn M.makes M.init (beq_iff_eq.mp M.fn) (codeAny_mono (F.run _ X.stack _ _ _ _ _ _ E (hr.make C us (ks.zip ws)) (I2.env0.make C us (ks.zip ws)) bd r2 hq) fun o s' hq' => ?_))
  rcases o with e | (u | _ | _ | _)
  · exact hx pins _ _ e s' I2 hq'
  all_goals first
    | exact False.elim hq'
    | (obtain ⟨v, H', I3, rv, ev, q3⟩ := I2.after hq'
       subst ev
       exact ⟨rv, ⟨V.ref (s.heap.objs.size + 1), H', I3, rfl, q3⟩⟩)
def tMakeX (C : Addr) (n m : Nat) (sp : Sp) (gV : List V → List V → List V) (E : L2.St → XK) (t tk : TA) : TE := fun σ H Q => t σ H fun vs H1 => tk σ H1 fun zs H2 => vs.length = n ∧ zs.length = m ∧ ∀ x dx, H2 x = none → H2 dx = none → dx ≠ x →
  sp (gV (.ref x :: vs) zs) (upd (upd H2 dx (.own x)) x (.ins C dx [])) (fun v H3 => v = .non ∧ Q (.ref x) H3) (E σ)
theorem pe_makeX {C : Addr} {CX : CXT} {k n : Nat} {f : Addr} {fd : FuncData} {ps ks : List Str} {sp : Sp} {E : L2.St → XK} {g : List Value → List Value → List Value} {gV : List V → List V → List V} {x : Str} {p pos : Pos} {e : Expr} {es : List Expr} {kws : List Keyword} {t tk : TA} (M : Mk X.K C f) (F : FnOk X.prog X.w X.K X.mg X.base CX k f fd ps sp) (hr : Room (k + 1) X.A) (hg : Gl X x) (hm : X.mg x = some (.ref C)) (hb : KBn X.K fd ps (n + 1) ks g gV) (hx : ∀ σ, PassesAt CX X σ (E σ)) (ha : PA X (e :: es) t) (hkw : L2.PK X kws tk)
    (hall : (backToKw pos (keywordEach kws X.env)).all (·.1.isSome) = true) (hks : (backToKw pos (keywordEach kws X.env)).filterMap (·.1) = ks) (hdb : (x == ("__debug__" : Str)) = false)
    (he : starEach (e :: es) X.env = (false, eval e X.env) :: starEach es X.env) (hpl : ((backTo pos (starEach (e :: es) X.env)).any (·.1) || (backToKw pos (keywordEach kws X.env)).any (·.1.isNone)) = false) :
    PE X (.Call (.Name x p) (e :: es) kws pos) (tMakeX C n ks.length sp gV E t tk) := ⟨fun pins s σ H Q I h => by
  refine wpAny_Call_Name_kw (ld_glob I hg hm (PySem.W.callWith_KW (h₀ := X.base) I.ok.mod.kin M.kp hall (thn (ha.run pos pins s σ H _ I h) fun us s1 ⟨vs, H1, I1, r, q⟩ => ?_) hpl he) hdb)
  refine thn (hkw.run pos pins s1 σ H1 _ I1 q) fun ws s2 ⟨zs, H2, I2, rz, l1, l2, q2⟩ => ⟨I2.kIn, ?_⟩
  rw [hks]
  exact run_makeX M F hr hb (hx σ) I2 r rz l1 l2 q2⟩
def eMakeX (C : Addr) (n m N : Nat) (gT : List T → List T → List T) (c : Con) (ma mk : AM) : EM := fun s h Q E => ma s h (fun ts h1 => mk s h1 (fun zs h2 => ts.length = n ∧ zs.length = m ∧ ∀ p, h2 p = none → (gT (.ref p :: ts) zs).length = N ∧ c (gT (.ref p :: ts) zs) (put h2 p (.ins C [])) (fun v h3 => v = .non ∧ Q (.ref p) h3) fun y h3 => E y s h3) E) E
theorem j_makeX {C : Addr} {CX : CXT} {k n N mm : Nat} {f : Addr} {fd : FuncData} {ps ks : List Str} {c : Con} {gT : List T → List T → List T} {x : Str} {p pos : Pos} {e : Expr} {es : List Expr} {kws : List Keyword} {ma mk : AM} (M : Mk X.K C f) (F : FnOk X.prog X.w X.K X.mg X.base CX k f fd ps (liftSp X.K N c)) (hr : Room (k + 1) X.A) (hg : Gl X x) (hm : X.mg x = some (.ref C)) (hb : KBt X.K fd ps (n + 1) ks gT) (hx : ∀ σ, PassesAt CX X σ (WE W σ)) (ha : JA X W (e :: es) ma) (hkw : JK X W kws mk) (hmm : ks.length = mm := by rfl)
    (hall : (backToKw pos (keywordEach kws X.env)).all (·.1.isSome) = true := by rfl) (hks : (backToKw pos (keywordEach kws X.env)).filterMap (·.1) = ks := by rfl) (hdb : (x == ("__debug__" : Str)) = false := by decide)
    (he : starEach (e :: es) X.env = (false, eval e X.env) :: starEach es X.env := by rfl) (hpl : ((backTo pos (starEach (e :: es) X.env)).any (·.1) || (backToKw pos (keywordEach kws X.env)).any (·.1.isNone)) = false := by rfl) :
    JE X W (.Call (.Name x p) (e :: es) kws pos) (eMakeX C n mm N gT c ma mk) := by
  obtain ⟨g, gV, hb, hrep⟩ := hb.ex
  exact PE.wk (pe_makeX M F hr hg hm hb hx ha hkw hall hks hdb he hpl) fun σ H Q' ⟨S, h, s, Q, E, mm', rs, lk, hm, pk⟩ =>
  ⟨S, h, s, _, E, mm', rs, lk, hm, fun S1 H1 h1 vs ts f1 m1 r1 q1 => ⟨S1, h1, s, _, E, m1, rs.fut f1, lk.fut f1, q1, fun S2 H2 h2 zs us f2 m2 r2 ⟨l1, l2, q2⟩ => ⟨by rw [r1.length]; exact l1, by rw [r2.length, hmm]; exact l2, fun x dx nx nd ne => by
    have f12 := f1.trans f2
    have m3 : Sim X.K S2 (upd H2 dx (.own x)) h2 := m2.side nd
    have nx' : upd H2 dx (.own x) x = none := by rw [upd_ne (Ne.symm ne)]; exact nx
    have f3 : Fut S2 H2 S2 (upd (upd H2 dx (.own x)) x (.ins C dx [])) := (fut_upd (m2.nS nd)).trans (fut_upd (m3.nS nx'))
    have m4 : Sim X.K S2 (upd (upd H2 dx (.own x)) x (.ins C dx [])) (put h2 x (.ins C [])) := m3.new nx' ⟨dx, [], rfl, .nil⟩
    obtain ⟨l3, q3⟩ := q2 x (m2.free nx)
    refine ⟨S2, _, _, _, _, m4, hrep S2 _ (.ref x :: vs) zs (.ref x :: ts) us (.cons (.ref x) (r1.fut (f2.trans f3))) (r2.fut f3) (by rw [List.length_cons, l1]) (l2.trans hmm.symm), l3, q3, ?_, ?_⟩
    · intro S5 H5 h5 v u f5 m5 r5 ⟨e5, q5⟩
      subst e5
      cases r5
      exact ⟨rfl, pk S5 H5 h5 _ _ (f12.trans (f3.trans f5)) m5 (.ref x) q5⟩
    · intro S5 H5 h5 y cls d f5 m5 r5 q5
      exact lk S5 H5 h5 σ s y cls d (f12.trans (f3.trans f5)) m5 (rs.fut (f12.trans (f3.trans f5))) r5 q5⟩⟩⟩
theorem RepL.reverse {K : PySem.W.Frag} {S : Fz} {H : Hp} : ∀ {v : List V} {t : List T}, RepL K S H v t → RepL K S H v.reverse t.reverse
  | _, _, .nil => .nil
  | _, _, .cons r q => by rw [List.reverse_cons, List.reverse_cons]; exact (RepL.reverse q).append (.cons r .nil)
def eRev (fl : Bool) (m : EM) : EM := fun s h Q E => m s h (fun x h1 => match lsOf h1 x with
  | some ts => mk fl ts.reverse h1 Q
  | none => False) E
theorem j_rev (fl : Bool) {e : Expr} {m : EM} {k : Nat} {p1 p2 p3 pos : Pos} (he : JE X W e m) : JE X W (.Subscript e (.Slice none none (some (.UnaryOp .USub (.Constant (.int 1) k p1) p2)) p3) pos) (eRev fl m) := PE.wk (pe_revL he) fun σ H Q' ⟨S, h, s, Q, E, mm, rs, lk, hm, pk⟩ =>
  ⟨S, h, s, _, E, mm, rs, lk, hm, fun S1 H1 h1 v x f1 m1 r1 q1 => by
    split at q1
    · rename_i ts e
      obtain ⟨a, vs, rfl, ha, r⟩ := lsOf_ok m1 r1 e
      exact ⟨a, vs, rfl, SqL.of ha, mk_ok m1 r.reverse q1 (pk.fut f1)⟩
    · exact q1.elim⟩
def reprT : T → Option Str
  | .non => some ("None" : Str)
  | .bl b => some (if b then "True" else "False" : String)
  | .int i => if i.natAbs.log2 < 1920 then some (toString i : String) else none
  | .str x => if (reprText x).length ≤ 1000000 then some (reprText x) else none
  | _ => none
def oRepr : RLT := fun xs h Q => match xs with
  | [x] => match reprT x with
    | some z => Q (.str z) h
    | none => False
  | _ => False
def rRepr : List V → Hp → VK → Prop := fun xs H Q => (xs = [.non] ∧ Q (.str ("None" : Str)) H) ∨ (∃ b : Bool, xs = [.bl b] ∧ Q (.str ((if b then "True" else "False" : String) : Str)) H) ∨ (∃ i : Int, xs = [.int i] ∧ i.natAbs.log2 < 1920 ∧ Q (.str ((toString i : String) : Str)) H) ∨ (∃ x : Str, xs = [.str x] ∧ (reprText x).length ≤ sizeLine ∧ Q (.str (reprText x)) H)
theorem call_repr : CallR X (.builtin "repr") rRepr := by
  intro pins s σ H xs us Q I r h
  rcases h with ⟨rfl, q⟩ | ⟨b, rfl, q⟩ | ⟨i, rfl, hz, q⟩ | ⟨x, rfl, hz, q⟩
  · obtain ⟨u, rfl, e⟩ := vals1 r
    obtain rfl : u = .none := e
    exact PySem.P.repr_of_none ⟨.str _, H, I.tok _, ⟨_, rfl⟩, q⟩
  · obtain ⟨u, rfl, e⟩ := vals1 r
    obtain rfl : u = .bool b := e
    refine PySem.P.repr_of_bool ⟨.str _, H, I.tok _, ⟨_, rfl⟩, ?_⟩
    cases b <;> exact q
  · obtain ⟨u, rfl, t, rfl⟩ := vals1 r
    exact PySem.P.repr_of_int hz ⟨.str _, H, I.tok _, ⟨_, rfl⟩, q⟩
  · obtain ⟨u, rfl, t, rfl⟩ := vals1 r
    exact PySem.P.repr_of_str ⟨.str _, H, I.tok _, ⟨_, rfl⟩, q⟩ hz
theorem c_repr {K : PySem.W.Frag} : CP K rRepr oRepr := fun S H h vs xs Q Q' m r q pk => by
  unfold oRepr at q
  split at q
  · cases r with
    | cons r1 rn =>
      cases rn
      split at q
      · rename_i z e
        cases r1 <;> simp only [reprT] at e <;> first
          | (cases e; done)
          | skip
        · cases e; exact .inl ⟨rfl, pk S H h _ _ Fut.refl m (.str _) q⟩
        · cases e; exact .inr (.inl ⟨_, rfl, pk S H h _ _ Fut.refl m (.str _) q⟩)
        · split at e
          · cases e; exact .inr (.inr (.inl ⟨_, rfl, by assumption, pk S H h _ _ Fut.refl m (.str _) q⟩))
          · cases e
        · split at e
          · cases e; exact .inr (.inr (.inr ⟨_, rfl, lim_le (by assumption), pk S H h _ _ Fut.refl m (.str _) q⟩))
          · cases e
      · exact q.elim
  · exact q.elim
def PureTo (m : EM) (t : T) : Prop := ∀ (s : Sl) (h : Hq) (Q : TK) (E : EX), Q t h → m s h Q E
def PureA (m : AM) (ts : List T) : Prop := ∀ (s : Sl) (h : Hq) (Q : List T → Hq → Prop) (E : EX), Q ts h → m s h Q E
theorem pu_c {t : T} : PureTo (eC t) t := fun _ _ _ _ q => q
theorem pa_n : PureA aNil [] := fun _ _ _ _ q => q
theorem pa_c {m : EM} {r : AM} {t : T} {ts : List T} (a : PureTo m t) (b : PureA r ts) : PureA (aCons m r) (t :: ts) := fun s h Q E q => a s h _ E (b s h _ E q)
theorem pu_tup {r : AM} {ts : List T} (a : PureA r ts) (l : ts.length ≤ 1000000) : PureTo (eTup r) (.tup ts) := fun s h Q E q => a s h _ E ⟨l, q⟩
theorem pu_lst {r : AM} {ts : List T} (a : PureA r ts) (l : ts.length ≤ 1000000) : PureTo (eLst true r) (.lst ts) := fun s h Q E q => a s h _ E ⟨l, by rw [mk_true]; exact q⟩
theorem pu_neg {m : EM} {i : Int} (a : PureTo m (.int i)) : PureTo (eNeg m) (.int (-i)) := fun s h Q E q => a s h _ E q
theorem pu_sub {m n : EM} {i j : Int} (a : PureTo m (.int i)) (b : PureTo n (.int j)) : PureTo (eOp oSub m n) (.int (i - j)) := fun s h Q E q => a s h _ E (b s h _ E q)
theorem pu_add {fl : Bool} {m n : EM} {i j : Int} (a : PureTo m (.int i)) (b : PureTo n (.int j)) : PureTo (eOp (oAdd fl) m n) (.int (i + j)) := fun s h Q E q => a s h _ E (b s h _ E q)
theorem pu_mul {fl : Bool} {m n : EM} {i j : Int} (a : PureTo m (.int i)) (b : PureTo n (.int j)) (c : MulOk i j) : PureTo (eOp (oMul fl) m n) (.int (i * j)) := fun s h Q E q => a s h _ E (b s h _ E ⟨c, q⟩)
theorem pu_pow {m n : EM} {i j : Int} (a : PureTo m (.int i)) (b : PureTo n (.int j)) (c : 0 ≤ j ∧ j ≤ 1000 ∧ i.natAbs < 2 ^ 64) : PureTo (eOp oPow m n) (.int (i ^ j.toNat)) := fun s h Q E q => a s h _ E (b s h _ E ⟨c, q⟩)
theorem j_pure {e : Expr} {m : EM} {t : T} (j : JE X W e m) (p : PureTo m t) : JE X W e (eC t) := PE.wk j fun σ H Q' ⟨S, h, s, Q, E, mm, rs, lk, hm, pk⟩ => ⟨S, h, s, Q, E, mm, rs, lk, p s h Q E hm, pk⟩
end
theorem oMax2 {i j : Int} {h : Hq} {Q : TK} : oMax [.int i, .int j] h Q = Q (.int (if j > i then j else i)) h := rfl
theorem oMin2 {i j : Int} {h : Hq} {Q : TK} : oMin [.int i, .int j] h Q = Q (.int (if j < i then j else i)) h := rfl
theorem oMax1 {ts : List T} {ns : List Int} {h : Hq} {Q : TK} (e : intsOf ts = some ns) : oMax [.lst ts] h Q = (0 < ns.length ∧ ∀ m, m ∈ ns → (∀ y, y ∈ ns → y ≤ m) → Q (.int m) h) := by
  unfold oMax
  simp only [intsIn, lsOf, Option.bind_some, e]
theorem oMin1 {ts : List T} {ns : List Int} {h : Hq} {Q : TK} (e : intsOf ts = some ns) : oMin [.lst ts] h Q = (0 < ns.length ∧ ∀ m, m ∈ ns → (∀ y, y ∈ ns → m ≤ y) → Q (.int m) h) := by
  unfold oMin
  simp only [intsIn, lsOf, Option.bind_some, e]
theorem oAddI' {fl : Bool} {i j : Int} {h : Hq} {Q : TK} : oAdd fl (.int i) (.int j) h Q = Q (.int (i + j)) h := rfl
theorem oAddL {fl : Bool} {xs ys : List T} {h : Hq} {Q : TK} : oAdd fl (.lst xs) (.lst ys) h Q = (xs.length + ys.length ≤ 1000000 ∧ mk fl (xs ++ ys) h Q) := rfl
theorem oMulI' {fl : Bool} {i j : Int} {h : Hq} {Q : TK} : oMul fl (.int i) (.int j) h Q = (MulOk i j ∧ Q (.int (i * j)) h) := rfl
end TL

namespace TL
open PySem L2
def keyT : T → Option Key
  | .int i => some (.inl i)
  | .str x => some (.inr x)
  | _ => none
section
variable {κ : Type} [DecidableEq κ]
def valT (gs : List (κ × T)) (k : κ) : Option T := (gs.find? fun kv => decide (kv.1 = k)).map (·.2)
def putD (gs : List (κ × T)) (k : κ) (v : T) : List (κ × T) := if (gs.any fun kv => decide (kv.1 = k)) = true then gs.map (fun kv => if kv.1 = k then (kv.1, v) else kv) else gs ++ [(k, v)]
variable {K : PySem.W.Frag} {S : Fz} {H : Hp}
theorem RepD.cases {kvs : List (κ × V)} {gs : List (κ × T)} (r : RepD K S H kvs gs) : (kvs = [] ∧ gs = []) ∨ ∃ k v t kvs' gs', kvs = (k, v) :: kvs' ∧ gs = (k, t) :: gs' ∧ Rep K S H v t ∧ RepD K S H kvs' gs' := by
  obtain ⟨h1, h2⟩ := r
  cases kvs with
  | nil =>
    cases gs with
    | nil => exact .inl ⟨rfl, rfl⟩
    | cons g gs => simp at h1
  | cons kv kvs =>
    cases gs with
    | nil => simp at h1
    | cons g gs =>
      obtain ⟨k, v⟩ := kv
      obtain ⟨k', t⟩ := g
      simp only [List.map_cons, List.cons.injEq] at h1
      obtain ⟨rfl, h1⟩ := h1
      rw [List.map_cons, List.map_cons] at h2
      cases h2 with
      | cons r q => exact .inr ⟨k, v, t, kvs, gs, rfl, rfl, r, h1, q⟩
theorem RepD.nil : RepD K S H ([] : List (κ × V)) [] := ⟨rfl, .nil⟩
theorem RepD.cons {k : κ} {v : V} {t : T} {kvs : List (κ × V)} {gs : List (κ × T)} (r : Rep K S H v t) (q : RepD K S H kvs gs) : RepD K S H ((k, v) :: kvs) ((k, t) :: gs) := ⟨by rw [List.map_cons, List.map_cons, q.1], .cons r q.2⟩
theorem RepD.val {k : κ} : ∀ {kvs : List (κ × V)} {gs : List (κ × T)}, RepD K S H kvs gs → (∀ t, valT gs k = some t → ∃ v, valV kvs k = some v ∧ Rep K S H v t) ∧ (valT gs k = none → valV kvs k = none) := by
  intro kvs
  induction kvs with
  | nil =>
    intro gs r
    rcases r.cases with ⟨_, rfl⟩ | ⟨_, _, _, _, _, z, _⟩
    · exact ⟨(fun t e => by cases e), fun _ => rfl⟩
    · cases z
  | cons kv kvs ih =>
    intro gs r
    rcases r.cases with ⟨z, _⟩ | ⟨k', v, t, kvs', gs', z, rfl, r1, r2⟩
    · cases z
    · cases z
      by_cases c : k' = k
      · subst c
        refine ⟨fun u e => ⟨v, valV_pos (p := (k', v)) rfl, ?_⟩, fun e => ?_⟩
        · simp [valT, List.find?_cons] at e
          subst e; exact r1
        · simp [valT, List.find?_cons] at e
      · obtain ⟨i1, i2⟩ := ih r2
        have e1 : valT ((k', t) :: gs') k = valT gs' k := by simp [valT, List.find?_cons, c]
        have e2 : valV ((k', v) :: kvs) k = valV kvs k := valV_neg (p := (k', v)) c
        rw [e1, e2]
        exact ⟨i1, i2⟩
theorem RepD.any {k : κ} {kvs : List (κ × V)} {gs : List (κ × T)} (r : RepD K S H kvs gs) : (kvs.any fun kv => decide (kv.1 = k)) = (gs.any fun kv => decide (kv.1 = k)) := by
  have e1 : (kvs.any fun kv => decide (kv.1 = k)) = (kvs.map (·.1)).any fun z => decide (z = k) := by rw [List.any_map]; rfl
  have e2 : (gs.any fun kv => decide (kv.1 = k)) = (gs.map (·.1)).any fun z => decide (z = k) := by rw [List.any_map]; rfl
  rw [e1, e2, r.1]
theorem RepD.app {kvs ls : List (κ × V)} {gs ms : List (κ × T)} (r : RepD K S H kvs gs) (q : RepD K S H ls ms) : RepD K S H (kvs ++ ls) (gs ++ ms) := ⟨by rw [List.map_append, List.map_append, r.1, q.1], by rw [List.map_append, List.map_append]; exact r.2.append q.2⟩
theorem RepD.put {k : κ} {v : V} {t : T} {kvs : List (κ × V)} {gs : List (κ × T)} (r : RepD K S H kvs gs) (q : Rep K S H v t) : RepD K S H (putK kvs k v) (putD gs k t) := by
  unfold putK putD
  rw [r.any]
  split
  · rename_i hany
    clear hany
    induction kvs generalizing gs with
    | nil =>
      rcases r.cases with ⟨_, rfl⟩ | ⟨_, _, _, _, _, z, _⟩
      · exact .nil
      · cases z
    | cons kv kvs ih =>
      rcases r.cases with ⟨z, _⟩ | ⟨k', v', t', kvs', gs', z, rfl, r1, r2⟩
      · cases z
      · cases z
        rw [List.map_cons, List.map_cons]
        by_cases c : k' = k
        · rw [if_pos c, if_pos c]; exact .cons q (ih r2)
        · rw [if_neg c, if_neg c]; exact .cons r1 (ih r2)
  · exact r.app (.cons q .nil)
theorem RepD.length {kvs : List (κ × V)} {gs : List (κ × T)} (r : RepD K S H kvs gs) : kvs.length = gs.length := by
  have := congrArg List.length r.1
  simpa using this
theorem RepD.fu {S1 : Fz} {H1 : Hp} {kvs : List (κ × V)} {gs : List (κ × T)} (f : Fu S H S1 H1) (r : RepD K S H kvs gs) : RepD K S1 H1 kvs gs := ⟨r.1, r.2.fu f⟩
theorem RepD.fut {S1 : Fz} {H1 : Hp} {kvs : List (κ × V)} {gs : List (κ × T)} (f : Fut S H S1 H1) (r : RepD K S H kvs gs) : RepD K S1 H1 kvs gs := r.fu f.fu
end
def dOf : Option O → Option (List (Key × T))
  | some (.dK gs) => some gs
  | some (.dL _ gs) => some gs
  | _ => none
section
variable {X : Cx} {W : WX} {K : PySem.W.Frag} {S : Fz} {H : Hp} {h : Hq}
theorem dOf_rd (m : Sim K S H h) {p : Addr} {gs : List (Key × T)} (e : dOf (h p) = some gs) : ∃ kvs, Rd H p (.dK kvs) ∧ RepD K S H kvs gs := by
  cases z : h p with
  | none => rw [z] at e; cases e
  | some o =>
    rw [z] at e
    cases o with
    | dK _ =>
      cases e
      obtain ⟨u, e1, kvs, e2, r⟩ := m.ob p _ z
      subst e2
      exact ⟨kvs, .inl e1, r⟩
    | dL _ _ =>
      cases e
      obtain ⟨u, e1, e0, o, kvs, e2, r⟩ := m.ob p _ z
      subst e0
      subst e2
      exact ⟨kvs, .inr ⟨o, e1⟩, r⟩
    | _ => cases e
theorem ref_dK (m : Sim K S H h) {p : Addr} {gs : List (Key × T)} (e : h p = some (.dK gs)) : ∃ kvs, H p = some (.dK kvs) ∧ RepD K S H kvs gs := by
  obtain ⟨u, e1, kvs, e2, r⟩ := m.ob p _ e
  subst e2
  exact ⟨kvs, e1, r⟩
theorem keyT_ok {v : V} {t : T} {k : Key} (r : Rep K S H v t) (e : keyT t = some k) : v = kV k := by
  cases r <;> simp only [keyT] at e <;> first
    | (cases e; done)
    | (cases e; rfl)
def eDNew : EM := fun _ h Q _ => ∀ p, h p = none → Q (.ref p) (put h p (.dK []))
theorem j_dnew {pos : Pos} : JE X W (.Dict [] [] pos) eDNew := PE.wk pe_dnewK fun σ H Q' ⟨S, h, s, Q, E, m, rs, lk, hm, pk⟩ p np =>
  pk S _ _ _ _ (fut_upd (m.nS np)) (m.new (o := .dK []) np ⟨[], rfl, .nil⟩) (.ref p) (hm p (m.free np))
def eDIn (neg : Bool) (a b : EM) : EM := fun s h Q E => a s h (fun y h1 => b s h1 (fun x h2 => match x with
  | .ref p => match dOf (h2 p) with
    | some gs => match keyT y with
      | some k => Q (.bl (xor neg (valT gs k).isSome)) h2
      | none => False
    | _ => False
  | _ => False) E) E
theorem din_ok (m : Sim K S H h) {p : Addr} {gs : List (Key × T)} {k : Key} (e : dOf (h p) = some gs) : ∃ o, DGet H p (kV k) o ∧ o.isSome = (valT gs k).isSome := by
  obtain ⟨kvs, e1, r⟩ := dOf_rd m e
  refine ⟨valV kvs k, .inl ⟨kvs, k, e1, rfl, rfl⟩, ?_⟩
  obtain ⟨r1, r2⟩ := r.val (k := k)
  cases z : valT gs k with
  | none => rw [r2 z]; rfl
  | some t => obtain ⟨v, ev, _⟩ := r1 t z; rw [ev]; rfl
theorem lift_din {a b : EM} : ∀ σ H Q, liftE K W (eDIn false a b) σ H Q → tDIn (liftE K W a) (liftE K W b) σ H Q := fun σ H Q' ⟨S, h, s, Q, E, m, rs, lk, hm, pk⟩ =>
  ⟨S, h, s, _, E, m, rs, lk, hm, fun S1 H1 h1 v y f1 m1 r1 q1 => ⟨S1, h1, s, _, E, m1, rs.fut f1, lk.fut f1, q1, fun S2 H2 h2 w x f2 m2 r2 q2 => by
    split at q2
    · split at q2
      · split at q2
        · rename_i p _ gs e _ k ek
          cases r2
          rw [keyT_ok (r1.fut f2) ek]
          obtain ⟨o, d, eo⟩ := din_ok m2 (k := k) e
          refine ⟨p, o, rfl, d, pk S2 H2 h2 _ _ (f1.trans f2) m2 (.bl _) ?_⟩
          rw [eo]
          simpa using q2
        · exact q2.elim
      · exact q2.elim
    · exact q2.elim⟩⟩
theorem lift_dnotin {a b : EM} : ∀ σ H Q, liftE K W (eDIn true a b) σ H Q → tDNotIn (liftE K W a) (liftE K W b) σ H Q := fun σ H Q' ⟨S, h, s, Q, E, m, rs, lk, hm, pk⟩ =>
  ⟨S, h, s, _, E, m, rs, lk, hm, fun S1 H1 h1 v y f1 m1 r1 q1 => ⟨S1, h1, s, _, E, m1, rs.fut f1, lk.fut f1, q1, fun S2 H2 h2 w x f2 m2 r2 q2 => by
    split at q2
    · split at q2
      · split at q2
        · rename_i p _ gs e _ k ek
          cases r2
          rw [keyT_ok (r1.fut f2) ek]
          obtain ⟨o, d, eo⟩ := din_ok m2 (k := k) e
          refine ⟨p, o, rfl, d, pk S2 H2 h2 _ _ (f1.trans f2) m2 (.bl _) ?_⟩
          rw [eo]
          simpa using q2
        · exact q2.elim
      · exact q2.elim
    · exact q2.elim⟩⟩
theorem j_din {i o : Expr} {a b : EM} {pos : Pos} (hu : X.A.units + 1 < cLine) (hi : JE X W i a) (ho : JE X W o b) (hm : behindInMarks .In o = false := by rfl) : JE X W (.Compare i [.In] [o] pos) (eDIn false a b) := PE.wk (pe_cmp (pc_din hu hi ho) hm) lift_din
theorem j_dnotin {i o : Expr} {a b : EM} {pos : Pos} (hu : X.A.units + 1 < cLine) (hi : JE X W i a) (ho : JE X W o b) (hm : behindInMarks .NotIn o = false := by rfl) : JE X W (.Compare i [.NotIn] [o] pos) (eDIn true a b) := PE.wk (pe_cmp (pc_dnotin hu hi ho) hm) lift_dnotin
theorem tB_test {t : TE} : ∀ σ H Q, tTest t σ H Q → tB t σ H Q := fun σ H Q q => q
theorem jt_din {i o : Expr} {a b : EM} {pos : Pos} (hu : X.A.units + 1 < cLine) (hi : JE X W i a) (ho : JE X W o b) (hm : behindInMarks .In o = false := by rfl) : JT X W (.Compare i [.In] [o] pos) (tOf (eDIn false a b)) := PT.wk (pt_cmp (pc_din hu hi ho) hm) fun σ H Q q => tB_test σ H Q (tTest_mono lift_din σ H Q (lift_test σ H Q q))
theorem jt_dnotin {i o : Expr} {a b : EM} {pos : Pos} (hu : X.A.units + 1 < cLine) (hi : JE X W i a) (ho : JE X W o b) (hm : behindInMarks .NotIn o = false := by rfl) : JT X W (.Compare i [.NotIn] [o] pos) (tOf (eDIn true a b)) := PT.wk (pt_cmp (pc_dnotin hu hi ho) hm) fun σ H Q q => tB_test σ H Q (tTest_mono lift_dnotin σ H Q (lift_test σ H Q q))
def eDGet (a b : EM) : EM := fun s h Q E => a s h (fun x h1 => b s h1 (fun y h2 => match x with
  | .ref p => match dOf (h2 p) with
    | some gs => match keyT y with
      | some k => match valT gs k with
        | some t => Q t h2
        | none => False
      | none => False
    | _ => False
  | _ => False) E) E
theorem j_dget {o i : Expr} {a b : EM} {pos : Pos} (hu : X.A.units + 1 < cLine) (hs : NoSl i) (ho : JE X W o a) (hi : JE X W i b) : JE X W (.Subscript o i pos) (eDGet a b) := PE.wk (pe_dget hu ho hi hs) fun σ H Q' ⟨S, h, s, Q, E, m, rs, lk, hm, pk⟩ =>
  ⟨S, h, s, _, E, m, rs, lk, hm, fun S1 H1 h1 v x f1 m1 r1 q1 => ⟨S1, h1, s, _, E, m1, rs.fut f1, lk.fut f1, q1, fun S2 H2 h2 w y f2 m2 r2 q2 => by
    split at q2
    · split at q2
      · split at q2
        · split at q2
          · rename_i p _ gs e _ k ek _ t et
            cases r1
            rw [keyT_ok r2 ek]
            obtain ⟨kvs, e1, r⟩ := dOf_rd m2 e
            obtain ⟨z, ez, rz⟩ := (r.val (k := k)).1 t et
            exact ⟨p, z, rfl, by rw [← ez]; exact .inl ⟨kvs, k, e1, rfl, rfl⟩, pk S2 H2 h2 _ _ (f1.trans f2) m2 rz q2⟩
          · exact q2.elim
        · exact q2.elim
      · exact q2.elim
    · exact q2.elim⟩⟩
def DcK (ts : List T) (stay : Hq → Prop) (g : T → Sl → Option Sl) (tt : TM) (ek ev : EM) (s : Sl) (h1 : Hq) (Q : TK) : Prop := ∃ I : Nat → List (Key × T) → Hq → Prop, I 0 [] h1 ∧ ∀ i acc h, i ≤ ts.length → I i acc h → stay h ∧ match ts[i]? with
  | none => ∀ p, h p = none → Q (.ref p) (put h p (.dK acc))
  | some t => acc.length < lim ∧ match g t s with
    | some s2 => tt s2 h (fun b h3 => if b = true then ek s2 h3 (fun y h4 => ev s2 h4 (fun z h5 => ∃ k, keyT y = some k ∧ I (i + 1) (putD acc k z) h5) E0) E0 else I (i + 1) acc h3) E0
    | none => False
def eDc (src : IM) (g : T → Sl → Option Sl) (tt : TM) (ek ev : EM) : EM := fun s h Q E => src s h (fun ts stay h1 => DcK ts stay g tt ek ev s h1 Q) E
theorem lift_dc {src : IM} {g : T → Sl → Option Sl} {g' : TG} {tt : TM} {ek ev : EM} {own : List Nat} (ct : CTg K g' g own) : ∀ σ H Q, liftE K W (eDc src g tt ek ev) σ H Q → tDc (liftI K W src) g' (liftT K W0 tt) (liftE K W0 ek) (liftE K W0 ev) own σ H Q := fun σ H Q' ⟨S, h, s, Q, E, m, rs, lk, hm, pk⟩ => by
  refine ⟨S, h, s, _, E, m, rs, lk, hm, fun S1 H1 h1 J ts stay f1 m1 it q => ?_⟩
  obtain ⟨I, i0, step⟩ := q
  intro D nD
  have nS1 : ¬ S1.has D := m1.nS nD
  let Wd : Nat → Hp → Prop := fun i H2 => ∃ S2 h2 vs acc, Fut S1 H1 S2 H2 ∧ Sim K S2 H2 h2 ∧ H2 D = some (.dK vs) ∧ RepD K S2 H2 vs acc ∧ ¬ S2.has D ∧ h2 D = none ∧ I i acc h2
  refine ⟨fun i n H2 => n = ts.length - i ∧ i ≤ ts.length ∧ Wd i H2, ⟨ts.length, by simp, Nat.zero_le _, S1, h1, [], [], fut_upd nS1, m1.side nD, upd_same, .nil, nS1, m1.free nD, i0⟩, ?_⟩
  rintro i n H2 ⟨en, hi, S2, h2, vs, acc, f2, m2, hD, rD, nS2, nh2, i2⟩
  obtain ⟨st, q2⟩ := step i acc h2 hi i2
  have m2' : Sim K (TL.prot S2 D) H2 h2 := m2.prot nh2 (by rw [hD]; exact fun z => nomatch z) fun z => nS2 (.inl z)
  obtain ⟨go, stop⟩ := it (TL.prot S2 D) H2 h2 ⟨f2.sub, fun a z => f2.kp a (.inl z)⟩ m2' st
  cases e : ts[i]? with
  | none =>
    rw [e] at q2
    have hl : i = ts.length := Nat.le_antisymm hi (List.getElem?_eq_none_iff.mp e)
    refine .inl ⟨by rw [hl]; exact stop, ?_⟩
    exact pk S2 H2 _ _ _ (f1.trans f2) (m2.follow (o := .dK acc) nh2 nS2 hD ⟨vs, rfl, rD⟩) (.ref D) (q2 D nh2)
  | some t =>
    rw [e] at q2
    obtain ⟨la, q2⟩ := q2
    have hl : i < ts.length := (List.getElem?_eq_some_iff.mp e).1
    obtain ⟨g1, g2⟩ := go i t e
    refine .inr ⟨g1, Wd (i + 1), fun H' w => ⟨ts.length - (i + 1), by omega, rfl, hl, w⟩, fun x H3 y => ?_⟩
    obtain ⟨S3, f3, m3, r3⟩ := g2 x H3 y
    have u2 : Fu S H (TL.prot S2 D) H2 := ⟨fun a z => f2.sub a (f1.sub a z), fun a z => (f1.trans f2).kp a (.inl z)⟩
    have rs3 : RepS K S3 H3 σ s := rs.fu (u2.trans f3.fu)
    split at q2
    · rename_i s2 eg
      refine ct S3 H3 h2 x t σ s s2 _ m3 rs3 r3 eg fun σ2 r2 ew => ⟨ew, ?_⟩
      refine ⟨S3, h2, s2, _, E0, m3, r2, lk0, q2, fun S4 H4 h4 b f4 m4 q4 => ?_⟩
      have back : ∀ {S5 : Fz} {H5 : Hp} {h5 : Hq} {ws : List (Key × V)} {acc' : List (Key × T)}, Fut (TL.prot S2 D) H2 S5 H5 → Sim K S5 H5 h5 → RepD K S5 H5 ws acc' → I (i + 1) acc' h5 → Wd (i + 1) (upd H5 D (.dK ws)) := fun {S5 H5 h5 ws acc'} f5 m5 r5 q5 => by
        have pD : S5.p D := by rw [f5.pe]; exact .inr rfl
        have nD5 : ¬ S5.s D := fun z => m5.dj D z pD
        have n6 : ¬ (TL.unp S2 S5).has D := fun z => z.elim nD5 fun z => nS2 (.inr z)
        refine ⟨TL.unp S2 S5, h5, ws, acc', ⟨fun a z => f5.sub a (f2.sub a z), fun a z => ?_, f2.pe⟩, (m5.unp f5.pe).side' (m5.fr D (.inr pD)) n6, upd_same, ?_, n6, m5.fr D (.inr pD), q5⟩
        · rw [upd_ne (neS z nS1), f5.kp a (z.elim (fun w => .inl (f2.sub a w)) fun w => .inr (.inl (by rw [f2.pe]; exact w))), f2.kp a z]
        · exact r5.fu (S := S5) (S1 := TL.unp S2 S5) ⟨fun a z => z, fun a z => upd_ne (show a ≠ D from fun w => nD5 (by rw [← w]; exact z))⟩
      have old : ∀ {S5 : Fz} {H5 : Hp}, Fut (TL.prot S2 D) H2 S5 H5 → H5 D = some (.dK vs) ∧ RepD K S5 H5 vs acc := fun {S5 H5} f5 => ⟨(f5.kp D (.inr (.inr rfl))).trans hD, RepD.fu (S := S2) ⟨f5.sub, fun a z => f5.kp a (.inl z)⟩ rD⟩
      cases b with
      | true =>
        rw [if_pos rfl] at q4
        refine iteT ?_
        refine ⟨S4, h4, s2, _, E0, m4, r2.fut f4, lk0, q4, fun S5 H5 h5 v y f5 m5 r5 q5 => ?_⟩
        refine ⟨S5, h5, s2, _, E0, m5, (r2.fut f4).fut f5, lk0, q5, fun S6 H6 h6 w z f6 m6 r6 ⟨k, ek, q6⟩ => ?_⟩
        have f26 := ((f3.trans f4).trans f5).trans f6
        obtain ⟨hD6, rD6⟩ := old f26
        exact ⟨vs, k, keyT_ok r5 ek, hD6, lim_lt (by rw [rD.length]; exact Nat.le_of_lt la), back f26 m6 (rD6.put r6) q6⟩
      | false =>
        rw [if_neg Bool.false_ne_true] at q4
        refine iteF ?_
        have f24 := f3.trans f4
        obtain ⟨hD4, rD4⟩ := old f24
        have w := back f24 m4 rD4 q4
        have eu : upd H4 D (.dK vs) = H4 := by
          funext a
          unfold upd
          split
          · rename_i z; rw [z, hD4]
          · rfl
        rw [eu] at w
        exact w
    · exact q2.elim
theorem j_dc {kx vx tg iter : Expr} {ifs : List Expr} {scope : Scope} {own : List (Str × Nat)} {pos : Pos} {src : IM} {g : T → Sl → Option Sl} {g' : TG} {tt : TM} {ek ev : EM} (hc : X.calm = true) (hN : X.N.Nodup) (ct : CTg X.K g' g (own.map (·.2))) (hi : JI X W tg iter src) (ok : BlkOk X.N X.env.scope scope own)
    (hg : ∀ (s : Shared) (H : Hp) (C : Addr) (cl : List (Str × Addr)) (fp : List Addr), PG (X.blk s H scope (compEnvC scope cl C X.env) fp) tg g')
    (ht : ∀ (s : Shared) (H : Hp) (C : Addr) (cl : List (Str × Addr)) (fp : List Addr), PTs (X.blk s H scope (compEnvC scope cl C X.env) fp) ifs (liftT X.K W0 tt))
    (hk : ∀ (s : Shared) (H : Hp) (C : Addr) (cl : List (Str × Addr)) (fp : List Addr), JE (X.blk s H scope (compEnvC scope cl C X.env) fp) W0 kx ek)
    (he : ∀ (s : Shared) (H : Hp) (C : Addr) (cl : List (Str × Addr)) (fp : List Addr), JE (X.blk s H scope (compEnvC scope cl C X.env) fp) W0 vx ev) (hs : ∀ x, foldedSetIterable iter X.env x = pure x := by intro _; rfl) :
    JE X W (.DictComp kx vx [⟨tg, iter, ifs, 0⟩] scope pos) (eDc src g tt ek ev) := PE.wk (pe_dc (tk := liftE X.K W0 ek) (tv := liftE X.K W0 ev) hc hN hi ok hg ht hk he hs) (lift_dc ct)
theorem swD {kx vx : Expr} {gs : List Comprehension} {scope : Scope} {pos py : Pos} {y : Str} {l : Nat} {env : Env} (hk : env.scope.kind = .function) (hy : env.scope.names.lookup y = some .local) (hl : (py.line == pos.line) = true) (ha : (scope.names.any fun (n, k) => n == y && (k == .local || k == .cell)) = false) :
    swapsWith (.DictComp kx vx gs scope pos) (some (.Name y py)) l env = pure true := by
  have hb : env.blockKind = .function := by unfold Env.blockKind; rw [hk]; rfl
  have ky : env.kindOf y = some .local := hy
  unfold swapsWith; simp only [hb, ky, ha, Expr.pos, hl]; rfl
theorem ps_setDc {i : Nat} {y : Str} {py pos spos : Pos} {kx vx tg iter : Expr} {ifs : List Expr} {scope : Scope} {own : List (Str × Nat)} {wi : TI} {g : TG} {tt : TT} {tk tv : TE} (hc : X.calm = true) (hN : X.N.Nodup) (hy : X.N[i]? = some y) (hyl : X.env.scope.names.lookup y = some .local)
    (hsw : swapsWith (.DictComp kx vx [⟨tg, iter, ifs, 0⟩] scope pos) (some (.Name y py)) spos.line X.env = pure true) (hi : PI X tg iter wi) (ok : BlkOk X.N X.env.scope scope own)
    (hg : ∀ (s : Shared) (H : Hp) (C : Addr) (cl : List (Str × Addr)) (fp : List Addr), PG (X.blk s H scope (compEnvC scope cl C X.env) fp) tg g)
    (ht : ∀ (s : Shared) (H : Hp) (C : Addr) (cl : List (Str × Addr)) (fp : List Addr), PTs (X.blk s H scope (compEnvC scope cl C X.env) fp) ifs tt)
    (hk : ∀ (s : Shared) (H : Hp) (C : Addr) (cl : List (Str × Addr)) (fp : List Addr), PE (X.blk s H scope (compEnvC scope cl C X.env) fp) kx tk)
    (he : ∀ (s : Shared) (H : Hp) (C : Addr) (cl : List (Str × Addr)) (fp : List Addr), PE (X.blk s H scope (compEnvC scope cl C X.env) fp) vx tv) (hs : ∀ x, foldedSetIterable iter X.env x = pure x) :
    PS X (.Assign [.Name y py] (.DictComp kx vx [⟨tg, iter, ifs, 0⟩] scope pos) spos) (tAsg (tDc wi g tt tk tv (own.map (·.2))) (gName i)) := ⟨fun pins s σ H D I h => by
  rw [exec_Assign_Name_used _ _ _ _ hsw]
  have h0 : tDc wi g tt tk tv (own.map (·.2)) σ H (fun x H1 => gName i x σ H1 D.nx) := h
  refine wpAny_bind (wpAny_standAt (wpAny_bind ?_))
  show wpAny _ X.A (do let _ ← comprehension (.DictComp kx vx [⟨tg, iter, ifs, 0⟩] scope pos) scope X.env (firstIterPos [⟨tg, iter, ifs, 0⟩] pos) newDict false (eval iter X.env) (some (assign (.Name y py) X.env))) _ _ s
  refine wpAny_bind (thn (dc_core (Qf := fun _ s' => SP X pins D .next s') hc hN I hi ok hg ht hk he hs h0 fun L C s1 m1 H1 I1 q hn f => ?_) fun _ _ z => wpAny_pure (wpAny_pure z))
  show wpAny _ _ (assign (.Name y py) X.env (.ref L)) _ _ _
  obtain ⟨e0, e1, e2, e3, e4, e5⟩ := f
  refine wpAny_assign_Name (store_ok2 (v := V.ref L) I1 hN hy (.inl hyl) rfl (fun s2 I2 ⟨c, sb, hc'⟩ => ?_) (.inr hyl))
  have ne : C ≠ c := hc'.elim (fun z => by rw [z]; exact e1) fun z w => e4 y c z w.symm
  exact ⟨m1, hn.sameBut sb ne, fun h3 sb3 => ⟨_, H1, I2.turned (t' := s2.toks) (fun b o hb e => (sb3.2 b hb).trans e) e0 e1 e3 e4 e5, q⟩⟩⟩
theorem js_setDc {i : Nat} {y : Str} {py pos spos : Pos} {kx vx tg iter : Expr} {ifs : List Expr} {scope : Scope} {own : List (Str × Nat)} {src : IM} {g : T → Sl → Option Sl} {g' : TG} {tt : TM} {ek ev : EM} (hc : X.calm = true) (hN : X.N.Nodup) (hy : X.N[i]? = some y) (hyl : X.env.scope.names.lookup y = some .local)
    (hsw : swapsWith (.DictComp kx vx [⟨tg, iter, ifs, 0⟩] scope pos) (some (.Name y py)) spos.line X.env = pure true) (ct : CTg X.K g' g (own.map (·.2))) (hi : JI X W tg iter src) (ok : BlkOk X.N X.env.scope scope own)
    (hg : ∀ (s : Shared) (H : Hp) (C : Addr) (cl : List (Str × Addr)) (fp : List Addr), PG (X.blk s H scope (compEnvC scope cl C X.env) fp) tg g')
    (ht : ∀ (s : Shared) (H : Hp) (C : Addr) (cl : List (Str × Addr)) (fp : List Addr), PTs (X.blk s H scope (compEnvC scope cl C X.env) fp) ifs (liftT X.K W0 tt))
    (hk : ∀ (s : Shared) (H : Hp) (C : Addr) (cl : List (Str × Addr)) (fp : List Addr), JE (X.blk s H scope (compEnvC scope cl C X.env) fp) W0 kx ek)
    (he : ∀ (s : Shared) (H : Hp) (C : Addr) (cl : List (Str × Addr)) (fp : List Addr), JE (X.blk s H scope (compEnvC scope cl C X.env) fp) W0 vx ev) (hs : ∀ x, foldedSetIterable iter X.env x = pure x := by intro _; rfl) :
    JS X W (.Assign [.Name y py] (.DictComp kx vx [⟨tg, iter, ifs, 0⟩] scope pos) spos) (sAsg (eDc src g tt ek ev) (gN i)) := PS.wk (ps_setDc (tk := liftE X.K W0 ek) (tv := liftE X.K W0 ev) hc hN hy hyl hsw hi ok hg ht hk he hs) fun D' σ H ⟨S, h, s, D, m, rs, lk, hm⟩ =>
  lift_dc ct σ H _ ⟨S, h, s, _, D.ex, m, rs, lk.ex, hm, fun S1 H1 h1 v x f1 m1 r1 q1 => lk.nx S1 H1 h1 _ _ f1 m1 ((rs.fut f1).set r1 i) q1⟩
def sDPutT (mo mi mv : EM) : SM := fun D s h => mv s h (fun v h1 => mo s h1 (fun x h2 => mi s h2 (fun y h3 => match x with
  | .ref p => match h3 p with
    | some (.dK gs) => gs.length < lim ∧ match keyT y with
      | some k => D.nx s (put h3 p (.dK (putD gs k v)))
      | none => False
    | _ => False
  | _ => False) D.ex) D.ex) D.ex
end
theorem view_bl {h : Hq} {b : Bool} : view h (.bl b) = .bl b := rfl
theorem dep_bl {b : Bool} : depth? (.bl b) = true := rfl
theorem eqT_tt : eqT (.bl true) (.bl true) = true := rfl
theorem eqT_ff : eqT (.bl false) (.bl false) = true := rfl
theorem eqT_tf : eqT (.bl true) (.bl false) = false := rfl
theorem eqT_ft : eqT (.bl false) (.bl true) = false := rfl
end TL

namespace TL
open PySem L2
section
variable {X : Cx} {W : WX} {K : PySem.W.Frag} {C : Addr}
theorem instAt {pins : List (Addr × Obj)} {σ : L2.St} {H : Hp} {s : Shared} {a dx : Addr} {fs : List (Str × V)} (I : Inv X pins σ H s) (e : H a = some (.ins C dx fs)) : ∃ od, PySem.W.InstAt s.heap a (PySem.W.instObj C dx) C (some od) := by
  obtain ⟨mA, O, _⟩ := ins_get I.hok e
  obtain ⟨od, J, _⟩ := O.look
  exact ⟨od, J⟩
theorem noneAt {P : Program} {w : World} (hP : X.prog = P) (hw : X.w = w) (σ : L2.St) : PassesAt (L2.CX P w) X σ (fun _ _ _ => False) := fun pins H s e s' I c => by
  obtain ⟨_, _, _, _, _, _, _, _, _, _, _, _, z⟩ := c
  exact z.elim
theorem back_ep {pins : List (Addr × Obj)} {σ : L2.St} {Q : VK} {u : Value} {s : Shared} (h : EP X pins σ Q u s) : PySem.W.CmpBack (EP X pins σ Q) u s := by
  obtain ⟨v, H', I, r, q⟩ := h
  have k : EP X pins σ Q u s := ⟨v, H', I, r, q⟩
  cases v with
  | non => obtain rfl : u = .none := r; exact k
  | bl b => obtain rfl : u = .bool b := r; exact k
  | int i => obtain ⟨t, rfl⟩ := r; exact k
  | str x => obtain ⟨t, rfl⟩ := r; exact k
  | byt b => obtain ⟨t, rfl⟩ := r; exact k
  | flt b => obtain ⟨t, rfl⟩ := r; exact k
  | ref a => obtain rfl : u = .ref a := r; exact k
  | ty n => obtain rfl : u = .type n := r; exact k
def rOwn (C : Addr) (sp : Sp) : R2 := fun v w H Q => ∃ a b dx dy fs gs, v = .ref a ∧ w = .ref b ∧ H a = some (.ins C dx fs) ∧ H b = some (.ins C dy gs) ∧ sp [.ref a, .ref b] H Q fun _ _ _ => False
def oOwn (C : Addr) (c : Con) : R2T := fun x y h Q => match insOf h x, insOf h y with
  | some (C1, _), some (C2, _) => C1 = C ∧ C2 = C ∧ c [x, y] h Q fun _ _ => False
  | _, _ => False
theorem p_own {c : Con} : OP K (rOwn C (liftSp K 2 c)) (oOwn C c) := fun S H h v w x y Q Q' m r1 r2 q pk => by
  unfold oOwn at q
  split at q
  · rename_i C1 g1 C2 g2 e1 e2
    obtain ⟨rfl, rfl, q⟩ := q
    obtain ⟨a, dx, fs, rfl, ea, _⟩ := insOf_ok m r1 e1
    obtain ⟨b, dy, gs, rfl, eb, _⟩ := insOf_ok m r2 e2
    exact ⟨a, b, dx, dy, fs, gs, rfl, rfl, ea, eb, S, h, [x, y], Q, _, m, .cons r1 (.cons r2 .nil), rfl, q, pk, fun _ _ _ _ _ _ _ _ _ z => z.elim⟩
  · exact q.elim
theorem o_ownBin {P : Program} {w : World} {k : Nat} {f : Addr} {fd : FuncData} {ps : List Str} {sp : Sp} {op : Operator} {nm : Str} (hP : X.prog = P) (hw : X.w = w) (hc : PySem.W.selfFirst X.K C = true) (hm : Meth X.K C nm f) (hn : nm = PySem.dunder op.info.2) (F : FnOk X.prog X.w X.K X.mg X.base (L2.CX P w) k f fd ps sp) (hr : Room k X.A) (hb : Binds X.K fd ps []) :
    OpR X (binaryOp op) (rOwn C sp) := by
  intro pins s σ H x y v u Q I rx ry h
  obtain ⟨a, b, dx, dy, fs, gs, rfl, rfl, ea, eb, q⟩ := h
  obtain rfl : v = .ref a := rx
  obtain rfl : u = .ref b := ry
  obtain ⟨oa, Ja⟩ := instAt I ea
  obtain ⟨ob, Jb⟩ := instAt I eb
  obtain ⟨mm, fr⟩ := I.fr
  subst hn
  refine PySem.W.binop_K fr I.ok.mod.kin Ja Jb.type hc hm.at_ hm.fn ?_
  exact wpAny_mono (run_fnS (us := [.ref a, .ref b]) (vs := [.ref a, .ref b]) (E := fun _ _ _ _ => False) F hr hb (noneAt hP hw σ) I (.cons rfl (.cons rfl .nil)) q) (fun _ _ z => back_ep z) fun _ _ z => z
theorem o_ownCmp {P : Program} {w : World} {k : Nat} {f : Addr} {fd : FuncData} {ps : List Str} {sp : Sp} {op : CmpOp} {nm : Str} (hop : ∀ (A : Around) (Q E) (s : Shared) (a b : Value), wpAny (model X.prog X.w) A (richCompare op a b) Q E s → wpAny (model X.prog X.w) A (compareOp op a b) Q E s) (hP : X.prog = P) (hw : X.w = w) (hm : Meth X.K C nm f) (hn : nm = (cmpInfo op).2.1) (F : FnOk X.prog X.w X.K X.mg X.base (L2.CX P w) k f fd ps sp) (hr : Room (k + 1) X.A) (hb : Binds X.K fd ps []) :
    OpR X (compareOp op) (rOwn C sp) := by
  intro pins s σ H x y v u Q I rx ry h
  obtain ⟨a, b, dx, dy, fs, gs, rfl, rfl, ea, eb, q⟩ := h
  obtain rfl : v = .ref a := rx
  obtain rfl : u = .ref b := ry
  obtain ⟨oa, Ja⟩ := instAt I ea
  obtain ⟨ob, Jb⟩ := instAt I eb
  obtain ⟨mm, fr⟩ := I.fr
  subst hn
  refine hop _ _ _ _ _ _ (PySem.W.cmp_K (tb := .ref C) (by have := hr.units; omega) fr I.ok.mod.kin Ja Jb.type (by unfold PySem.W.notFirst; simp) hm.at_ hm.fn ?_)
  exact wpAny_mono (run_fnS (us := [.ref a, .ref b]) (vs := [.ref a, .ref b]) (E := fun _ _ _ _ => False) F (hr.mono (Nat.le_succ _)) hb (noneAt hP hw σ) I (.cons rfl (.cons rfl .nil)) q) (fun _ _ z => back_ep z) fun _ _ z => z
def TyC (K : PySem.W.Frag) (C : Addr) : Prop := ∀ H a dx fs, H a = some (.ins C dx fs) → TyX K H (.ref a) (.ref C)
def oIsiC (K : PySem.W.Frag) : RLT := fun xs h Q => match xs with
  | [x, .ref D] => (∃ k, kdOf h x = some k ∧ PySem.W.kitOne K (.type k.nm) (.ref D) = some false ∧ Q (.bl false) h) ∨ (∃ C gs b, insOf h x = some (C, gs) ∧ TyC K C ∧ PySem.W.kitOne K (.ref C) (.ref D) = some b ∧ Q (.bl b) h)
  | _ => False
theorem c_isiC : CP K (rIsi K) (oIsiC K) := fun S H h vs xs Q Q' m r q pk => by
  unfold oIsiC at q
  split at q
  · cases r with
    | cons r1 rn => cases rn with
      | cons r2 rn =>
        cases rn
        cases r2
        rcases q with ⟨k, e1, e2, q⟩ | ⟨C, gs, b, e1, ty, e2, q⟩
        · exact ⟨_, _, _, _, _, rfl, .own _, kd_ty m r1 e1, e2, pk S H h _ _ Fut.refl m (.bl _) q⟩
        · obtain ⟨a, dx, fs, rfl, ea, _⟩ := insOf_ok m r1 e1
          exact ⟨_, _, _, _, _, rfl, .own _, ty H a dx fs ea, e2, pk S H h _ _ Fut.refl m (.bl _) q⟩
  · exact q.elim
end
end TL

namespace TL
open PySem L2
section
variable {prog : Program} {w : World} {A : Around} {E : Value → Shared → Prop} {s : Shared} {K : PySem.W.Frag} {x C f : Addr} {ox : Obj} {od : Option Obj} {b tb : Value}
theorem objNe_own (hu : A.units < cLine) (X : K.In s.heap) (I : PySem.W.InstAt s.heap x ox C od) (hs : PySem.W.findIn K (.ref C) "__eq__" = some (some (.ref f))) (hf : PySem.W.isFn K (.ref f) = true) {Q : Fin → Shared → Prop}
    (hc : wpAny (model prog w) A (call (.ref f) [.ref x, b]) (fun v s' => ∃ r, v = .bool r ∧ Q (.done (.ret (.bool (!r)))) s') E s) : wpAny (model prog w) A (Builtin.«object.__ne__» ⟨[.ref x, b], []⟩) Q E s := by
  obtain ⟨hh, g, d, t, os⟩ := s
  unfold Builtin.«object.__ne__»
  repeat (first
    | with_reducible refine wpAny_cRoomFor hu ?_
    | (refine wpAny_bind (m := callSpecialIfBound? (.ref x) (Str.ofString "__eq__") [b]) (PySem.W.ifBound_K X I hs hf (wpAny_mono hc (fun r s' hr => by
          obtain ⟨r, rfl, q⟩ := hr
          repeat (first | exact q | exact wpAny_pure q | exact wpAny_truthy_bool q | (refine wpAny_bind (m := truthy (.bool _)) (wpAny_truthy_bool ?_)) | wp_step)) fun _ _ e => e)))
    | wp_step)
theorem ne_own (hu : A.units + 1 < cLine) (X : K.In s.heap) (I : PySem.W.InstAt s.heap x ox C od) (hb : PySem.W.Looks (model prog w) s.heap (typeOf b) tb) (hn : PySem.W.notFirst K C tb = true) (hne : PySem.W.findIn K (.ref C) "__ne__" = some (some (.builtin "object.__ne__")))
    (hsub : PySem.W.subIn K (.ref C) (.type "object") = some true) (hs : PySem.W.findIn K (.ref C) "__eq__" = some (some (.ref f))) (hf : PySem.W.isFn K (.ref f) = true) {Q : Value → Shared → Prop}
    (hc : wpAny (model prog w) A.in1 (call (.ref f) [.ref x, b]) (fun v s' => ∃ r, v = .bool r ∧ Q (.bool (!r)) s') E s) : wpAny (model prog w) A (compareOp .NotEq (.ref x) b) Q E s := by
  have cal : wpAny (model prog w) A (call (.builtin "object.__ne__") [.ref x, b]) (fun v s' => ∃ r, v = .bool r ∧ Q (.bool r) s') E s := by
    refine wpAny_call (codeAny_call_builtin PySem.F.cmp_object.ne.plain PySem.F.cmpEntry_ne (PySem.W.check_slot PySem.F.cmpKind_ne PySem.F.cmpSplit_ne (I.type.andThen (PySem.W.looks_subIn X hsub)) (PySem.F.cmpArgs_ne _ _) ?_))
    refine objNe_own (A := A.in1) hu X I hs hf (wpAny_mono hc (fun v s' ⟨r, e, q⟩ => ⟨r, e, ?_⟩) fun _ _ z => z)
    exact ⟨_, rfl, q⟩
  have one : wpAny (model prog w) A (tryCompare (.ref x) "__ne__" b) (fun r s' => ∃ v, r = some v ∧ Q v s') E s := by
    unfold tryCompare
    simp only [callSpecialIfBound?, bindSpecialIfBound?]
    refine wpAny_bind (wpAny_holding (wpAny_bind (wpAny_bind (wpAny_bind (I.type.here ((PySem.W.looks_findIn X hne).here ?_))))))
    simp only [PySem.F.cmp_object.ne.bind]
    refine wpAny_bind (wpAny_askSetting (wpAny_ite ?_))
    split
    · refine wpAny_bind (wpAny_pure (wpAny_pure ?_))
      refine wpAny_bind (m := call _ _) (wpAny_mono cal (fun v s' ⟨r, e, q⟩ => ?_) fun _ _ z => z)
      subst e; exact wpAny_pure (wpAny_pure ⟨_, rfl, q⟩)
    · refine wpAny_tryCatch (wpAny_bind (wpAny_pure (wpAny_pure ?_)))
      refine wpAny_bind (m := call _ _) (wpAny_mono cal (fun v s' ⟨r, e, q⟩ => ?_) fun _ _ z => z)
      subst e; exact wpAny_pure (wpAny_pure ⟨_, rfl, q⟩)
  have fin : ∀ (r : Option Value) (s' : Shared), (∃ v, r = some v ∧ Q v s') → wpAny (model prog w) A (match r with | some v => pure v | none => pure .none) Q E s' := fun r s' ⟨v, e, q⟩ => by subst e; exact wpAny_pure q
  show wpAny _ A (richCompare .NotEq (.ref x) b) Q E s
  unfold richCompare
  simp only [oneThing_ref]
  refine wpAny_holding (wpAny_bind (wpAny_cRoomFor (by omega) (wpAny_bind (I.type.here (wpAny_bind (hb.here ?_))))))
  split
  · rename_i q
    have e : PySem.W.subIn K tb (.ref C) = some false := (Bool.or_eq_true_iff.mp hn).elim (fun e => by rw [beq_iff_eq.mp e] at q; simp at q) beq_iff_eq.mp
    refine wpAny_bind ((PySem.W.looks_subIn X e).here ?_)
    simp only [Bool.false_eq_true, if_false]
    refine wpAny_bind (wpAny_mono one (fun r s' ⟨v, e, q⟩ => ?_) fun _ _ z => z)
    subst e; exact wpAny_pure q
  · refine wpAny_bind (wpAny_pure ?_)
    simp only [Bool.false_eq_true, if_false]
    refine wpAny_bind (wpAny_mono one (fun r s' ⟨v, e, q⟩ => ?_) fun _ _ z => z)
    subst e; exact wpAny_pure q
end
section
variable {X : Cx} {K : PySem.W.Frag} {C : Addr}
theorem run_fn1 {P : Program} {w : World} {k : Nat} {f : Addr} {fd : FuncData} {ps : List Str} {sp : Sp} {pins : List (Addr × Obj)} {σ : L2.St} {H : Hp} {s : Shared} {Q : VK} {us : List Value} {vs : List V} (hP : X.prog = P) (hw : X.w = w) (F : FnOk X.prog X.w X.K X.mg X.base (L2.CX P w) k f fd ps sp) (hr : Room (k + 1) X.A) (hb : Binds X.K fd ps [])
    (I : Inv X pins σ H s) (r : Vals vs us) (h : sp vs H Q fun _ _ _ => False) : wpAny (model X.prog X.w) X.A.in1 (call (.ref f) us) (EP X pins σ Q) X.xe s := by
  have hl : (us ++ []).length = ps.length := by rw [List.append_nil, ← r.length]; exact F.len _ _ _ _ h
  have bd := hb s us I.kIn hl
  rw [List.append_nil] at bd
  refine wpAny_call (codeAny_mono (F.run X.A.in1 X.stack s H ⟨us, []⟩ us vs Q _ hr.in1 I.env0.in1 bd r h) fun o s' z => ?_)
  rcases o with e | (u | _ | _ | _)
  · exact noneAt hP hw σ pins H s e s' I z
  all_goals first
    | exact I.after z
    | exact False.elim z
def oOwnNe (C : Addr) (c : Con) : R2T := fun x y h Q => match insOf h x, insOf h y with
  | some (C1, _), some (C2, _) => C1 = C ∧ C2 = C ∧ c [x, y] h (fun v h1 => match v with
    | .bl b => Q (.bl (!b)) h1
    | _ => False) fun _ _ => False
  | _, _ => False
def rOwnNe (C : Addr) (sp : Sp) : R2 := fun v w H Q => ∃ a b dx dy fs gs, v = .ref a ∧ w = .ref b ∧ H a = some (.ins C dx fs) ∧ H b = some (.ins C dy gs) ∧ sp [.ref a, .ref b] H (fun z H1 => ∃ r, z = .bl r ∧ Q (.bl (!r)) H1) fun _ _ _ => False
theorem p_ownNe {c : Con} : OP K (rOwnNe C (liftSp K 2 c)) (oOwnNe C c) := fun S H h v w x y Q Q' m r1 r2 q pk => by
  unfold oOwnNe at q
  split at q
  · rename_i C1 g1 C2 g2 e1 e2
    obtain ⟨rfl, rfl, q⟩ := q
    obtain ⟨a, dx, fs, rfl, ea, _⟩ := insOf_ok m r1 e1
    obtain ⟨b, dy, gs, rfl, eb, _⟩ := insOf_ok m r2 e2
    refine ⟨a, b, dx, dy, fs, gs, rfl, rfl, ea, eb, S, h, [x, y], _, _, m, .cons r1 (.cons r2 .nil), rfl, q, fun S1 H1 h1 z u f1 m1 r3 q3 => ?_, fun _ _ _ _ _ _ _ _ _ z => z.elim⟩
    dsimp only at q3
    split at q3
    · cases r3; exact ⟨_, rfl, pk S1 H1 h1 _ _ f1 m1 (.bl _) q3⟩
    · exact q3.elim
  · exact q.elim
theorem o_ownNe {P : Program} {w : World} {k : Nat} {f : Addr} {fd : FuncData} {ps : List Str} {sp : Sp} (hP : X.prog = P) (hw : X.w = w) (hm : Meth X.K C "__eq__" f) (hne : PySem.W.findIn X.K (.ref C) "__ne__" = some (some (.builtin "object.__ne__"))) (hsub : PySem.W.subIn X.K (.ref C) (.type "object") = some true) (F : FnOk X.prog X.w X.K X.mg X.base (L2.CX P w) k f fd ps sp) (hr : Room (k + 1) X.A) (hb : Binds X.K fd ps []) :
    OpR X (compareOp .NotEq) (rOwnNe C sp) := by
  intro pins s σ H x y v u Q I rx ry h
  obtain ⟨a, b, dx, dy, fs, gs, rfl, rfl, ea, eb, q⟩ := h
  obtain rfl : v = .ref a := rx
  obtain rfl : u = .ref b := ry
  obtain ⟨oa, Ja⟩ := instAt I ea
  obtain ⟨ob, Jb⟩ := instAt I eb
  refine ne_own (tb := .ref C) (by have := hr.units; omega) I.kIn Ja Jb.type (by unfold PySem.W.notFirst; simp) hne hsub hm.at_ hm.fn ?_
  refine wpAny_mono (run_fn1 (us := [.ref a, .ref b]) (vs := [.ref a, .ref b]) hP hw F hr hb I (.cons rfl (.cons rfl .nil)) q) (fun z s' ⟨v, H1, I1, r1, r, e, q1⟩ => ?_) fun _ _ z => z
  subst e
  obtain rfl : z = .bool r := r1
  exact ⟨r, rfl, .bl (!r), H1, I1, rfl, q1⟩
end
end TL

namespace TL
open PySem L2
section
variable {X : Cx} {W : WX} {K : PySem.W.Frag} {C : Addr}
def oOwnIn (neg : Bool) (C : Addr) (c : Con) : R2T := fun y x h Q => match insOf h x with
  | some (C1, _) => C1 = C ∧ c [x, y] h (fun v h1 => match v with
    | .bl b => Q (.bl (xor neg b)) h1
    | _ => False) fun _ _ => False
  | none => False
def rOwnIn (neg : Bool) (C : Addr) (sp : Sp) : R2 := fun v w H Q => ∃ a dx fs, w = .ref a ∧ H a = some (.ins C dx fs) ∧ sp [.ref a, v] H (fun z H1 => ∃ r, z = .bl r ∧ Q (.bl (xor neg r)) H1) fun _ _ _ => False
theorem p_ownIn {neg : Bool} {c : Con} : OP K (rOwnIn neg C (liftSp K 2 c)) (oOwnIn neg C c) := fun S H h v w y x Q Q' m r1 r2 q pk => by
  unfold oOwnIn at q
  split at q
  · rename_i C1 g1 e1
    obtain ⟨rfl, q⟩ := q
    obtain ⟨a, dx, fs, rfl, ea, _⟩ := insOf_ok m r2 e1
    refine ⟨a, dx, fs, rfl, ea, S, h, [x, y], _, _, m, .cons r2 (.cons r1 .nil), rfl, q, fun S1 H1 h1 z u f1 m1 r3 q3 => ?_, fun _ _ _ _ _ _ _ _ _ z => z.elim⟩
    dsimp only at q3
    split at q3
    · cases r3; exact ⟨_, rfl, pk S1 H1 h1 _ _ f1 m1 (.bl _) q3⟩
    · exact q3.elim
  · exact q.elim
theorem o_ownIn {P : Program} {w : World} {k : Nat} {f : Addr} {fd : FuncData} {ps : List Str} {sp : Sp} (hP : X.prog = P) (hw : X.w = w) (hm : Meth X.K C "__contains__" f) (F : FnOk X.prog X.w X.K X.mg X.base (L2.CX P w) k f fd ps sp) (hr : Room k X.A) (hb : Binds X.K fd ps []) : OpR X (compareOp .In) (rOwnIn false C sp) := by
  intro pins s σ H x y v u Q I rx ry h
  obtain ⟨a, dx, fs, rfl, ea, q⟩ := h
  obtain rfl : u = .ref a := ry
  obtain ⟨oa, Ja⟩ := instAt I ea
  obtain ⟨mm, fr⟩ := I.fr
  refine PySem.W.in_K fr I.ok.mod.kin Ja hm.at_ hm.fn ?_
  refine wpAny_mono (run_fnS (us := [.ref a, v]) (vs := [.ref a, x]) (E := fun _ _ _ _ => False) F hr hb (noneAt hP hw σ) I (.cons rfl (.cons rx .nil)) q) (fun z s' ⟨t, H1, I1, r1, r, e, q1⟩ => ?_) fun _ _ z => z
  subst e
  obtain rfl : z = .bool r := r1
  exact wpAny_truthy_bool ⟨.bl r, H1, I1, rfl, by simpa using q1⟩
theorem o_ownNotIn {P : Program} {w : World} {k : Nat} {f : Addr} {fd : FuncData} {ps : List Str} {sp : Sp} (hP : X.prog = P) (hw : X.w = w) (hm : Meth X.K C "__contains__" f) (F : FnOk X.prog X.w X.K X.mg X.base (L2.CX P w) k f fd ps sp) (hr : Room k X.A) (hb : Binds X.K fd ps []) : OpR X (compareOp .NotIn) (rOwnIn true C sp) := by
  intro pins s σ H x y v u Q I rx ry h
  obtain ⟨a, dx, fs, rfl, ea, q⟩ := h
  obtain rfl : u = .ref a := ry
  obtain ⟨oa, Ja⟩ := instAt I ea
  obtain ⟨mm, fr⟩ := I.fr
  refine PySem.W.notIn_K fr I.ok.mod.kin Ja hm.at_ hm.fn ?_
  refine wpAny_mono (run_fnS (us := [.ref a, v]) (vs := [.ref a, x]) (E := fun _ _ _ _ => False) F hr hb (noneAt hP hw σ) I (.cons rfl (.cons rx .nil)) q) (fun z s' ⟨t, H1, I1, r1, r, e, q1⟩ => ?_) fun _ _ z => z
  subst e
  obtain rfl : z = .bool r := r1
  exact wpAny_truthy_bool ⟨.bl (!r), H1, I1, rfl, by simpa using q1⟩
def oOwnLen (C : Addr) (c : Con) : RLT := fun xs h Q => match xs with
  | [x] => match insOf h x with
    | some (C1, _) => C1 = C ∧ c [x] h (fun v h1 => match v with
      | .int i => 0 ≤ i ∧ i < 2 ^ 60 ∧ Q (.int i) h1
      | _ => False) fun _ _ => False
    | none => False
  | _ => False
def rOwnLen (C : Addr) (sp : Sp) : List V → Hp → VK → Prop := fun xs H Q => ∃ a dx fs, xs = [.ref a] ∧ H a = some (.ins C dx fs) ∧ sp [.ref a] H (fun z H1 => ∃ i : Int, z = .int i ∧ 0 ≤ i ∧ i < 2 ^ 60 ∧ Q (.int i) H1) fun _ _ _ => False
theorem c_ownLen {c : Con} : CP K (rOwnLen C (liftSp K 1 c)) (oOwnLen C c) := fun S H h vs xs Q Q' m r q pk => by
  unfold oOwnLen at q
  split at q
  · cases r with
    | cons r1 rn =>
      cases rn
      split at q
      · rename_i x C1 g1 e1
        obtain ⟨rfl, q⟩ := q
        obtain ⟨a, dx, fs, rfl, ea, _⟩ := insOf_ok m r1 e1
        refine ⟨a, dx, fs, rfl, ea, S, h, [_], _, _, m, .cons r1 .nil, rfl, q, fun S1 H1 h1 z u f1 m1 r3 q3 => ?_, fun _ _ _ _ _ _ _ _ _ z => z.elim⟩
        dsimp only at q3
        split at q3
        · cases r3; exact ⟨_, rfl, q3.1, q3.2.1, pk S1 H1 h1 _ _ f1 m1 (.int _) q3.2.2⟩
        · exact q3.elim
      · exact q.elim
  · exact q.elim
theorem call_ownLen {P : Program} {w : World} {k : Nat} {f : Addr} {fd : FuncData} {ps : List Str} {sp : Sp} (hP : X.prog = P) (hw : X.w = w) (hm : Meth X.K C "__len__" f) (F : FnOk X.prog X.w X.K X.mg X.base (L2.CX P w) k f fd ps sp) (hr : Room (k + 1) X.A) (hb : Binds X.K fd ps []) : CallR X (.builtin "len") (rOwnLen C sp) := by
  intro pins s σ H xs us Q I r h
  obtain ⟨a, dx, fs, rfl, ea, q⟩ := h
  obtain ⟨u, rfl, e⟩ := vals1 r
  obtain rfl : u = .ref a := e
  obtain ⟨oa, Ja⟩ := instAt I ea
  obtain ⟨mm, fr⟩ := I.fr
  refine PySem.W.len_K fr I.ok.mod.kin Ja hm.at_ hm.fn ?_
  refine wpAny_mono (run_fn1 (us := [.ref a]) (vs := [.ref a]) hP hw F hr hb I (.cons rfl .nil) q) (fun z s' ⟨t, H1, I1, r1, i, e, i0, i1, q1⟩ => ?_) fun _ _ z => z
  subst e
  obtain ⟨tt, rfl⟩ := r1
  exact ⟨⟨i0, by omega⟩, ⟨.int i, H1, I1.tok _, ⟨_, rfl⟩, q1⟩⟩
def tOwn (C : Addr) (c : Con) (m : EM) : TM := fun s h Q E => m s h (fun x h1 => match insOf h1 x with
  | some (C1, _) => C1 = C ∧ c [x] h1 (fun v h2 => match v with
    | .bl b => Q b h2
    | _ => False) fun _ _ => False
  | none => False) E
theorem pt_own {P : Program} {w : World} {k : Nat} {f : Addr} {fd : FuncData} {ps : List Str} {sp : Sp} {a : Expr} {ta : TE} (hP : X.prog = P) (hw : X.w = w) (hm : Meth X.K C "__bool__" f) (F : FnOk X.prog X.w X.K X.mg X.base (L2.CX P w) k f fd ps sp) (hr : Room k X.A) (hb : Binds X.K fd ps []) (ha : PE X a ta) (he : ∀ whole, isTrue a X.env whole = (do let v ← whole; standAt a.pos; holding [v] (truthy v))) :
    PT X a (fun σ H Q => ta σ H fun x H' => ∃ p dx fs, x = .ref p ∧ H' p = some (.ins C dx fs) ∧ sp [.ref p] H' (fun z H1 => ∃ r, z = .bl r ∧ Q r H1) fun _ _ _ => False) := ⟨fun pins s σ H Q I h => by
  refine PyProof.Rows.isTrue_plain (thn (ha.run pins s σ H _ I h) fun v s1 ⟨x, H1, I1, r1, p, dx, fs, ex, ep, q⟩ => ?_) (he _)
  subst ex
  obtain rfl : v = .ref p := r1
  obtain ⟨oa, Ja⟩ := instAt I1 ep
  obtain ⟨mm, fr⟩ := I1.fr
  refine PySem.W.truthy_K fr I1.ok.mod.kin Ja hm.at_ hm.fn ?_
  refine wpAny_mono (run_fnS (us := [.ref p]) (vs := [.ref p]) (E := fun _ _ _ _ => False) F hr hb (noneAt hP hw σ) I1 (.cons rfl .nil) q) (fun z s' ⟨t, H2, I2, r2, r, e, q1⟩ => ?_) fun _ _ z => z
  subst e
  obtain rfl : z = .bool r := r2
  exact ⟨H2, I2, q1⟩⟩
theorem jt_own {P : Program} {w : World} {k : Nat} {f : Addr} {fd : FuncData} {ps : List Str} {c : Con} {a : Expr} {m : EM} (hP : X.prog = P) (hw : X.w = w) (hm : Meth X.K C "__bool__" f) (F : FnOk X.prog X.w X.K X.mg X.base (L2.CX P w) k f fd ps (liftSp X.K 1 c)) (hr : Room k X.A) (hb : Binds X.K fd ps []) (ha : JE X W a m) (he : ∀ whole, isTrue a X.env whole = (do let v ← whole; standAt a.pos; holding [v] (truthy v)) := by intro _; rfl) :
    JT X W a (tOwn C c m) := PT.wk (pt_own hP hw hm F hr hb ha he) fun σ H Q' ⟨S, h, s, Q, E, m, rs, lk, hm, pk⟩ =>
  ⟨S, h, s, _, E, m, rs, lk, hm, fun S1 H1 h1 v x f1 m1 r1 q1 => by
    split at q1
    · rename_i C1 g1 e1
      obtain ⟨rfl, q⟩ := q1
      obtain ⟨p, dx, fs, rfl, ep, _⟩ := insOf_ok m1 r1 e1
      refine ⟨p, dx, fs, rfl, ep, S1, h1, [x], _, _, m1, .cons r1 .nil, rfl, q, fun S2 H2 h2 z u f2 m2 r3 q3 => ?_, fun _ _ _ _ _ _ _ _ _ z => z.elim⟩
      dsimp only at q3
      split at q3
      · cases r3; exact ⟨_, rfl, pk S2 H2 h2 _ (f1.trans f2) m2 q3⟩
      · exact q3.elim
    · exact q1.elim⟩
end
end TL

namespace TL
open PySem PySem.Spec L2 PyProof.Rows
theorem turn_long {P : Program} {w : World} {K : PySem.W.Frag} {tg : Expr} (it : Addr) (lo : Int) (n : Nat) : Turn P w K tg (Itr lo n) [it] it (fun i h => IsLongIter h it (lo + (i : Nat) * 1) ((n : Int) - (i : Nat)) 1) where
  mem := by simp
  obj := fun i h st b hb => by
    have e : b = it := by simpa using hb
    subst e
    exact ⟨_, st, fun v z => by
      have z' : Data.fields _ = Data.cell v := z
      cases z'⟩
  keep := fun i h h' st k => k it (by simp) _ st
  item := by
    intro X hP hw hK hc i pins s σ H E I hf st hg
    subst hP hw hK
    obtain ⟨f0, f1, f2, f3, f4, f5⟩ := hf it (by simp)
    have W := Walks.longrange (prog := X.prog) (w := X.w) (I.ok.hd hc) it lo 1 n
    refine W.item i s _ _ hg st fun v h' tk hv st' kk => ?_
    obtain ⟨t, rfl⟩ := hv
    have I1 : Inv X pins σ H { s with heap := h', toks := tk } := I.turned (fun b o hb e => kk b o (by simpa using hb) e) f0 f1 f3 f4 f5
    refine ⟨_, rfl, go_of (s := { s with heap := h', toks := tk }) (n := "longrange_iterator") st' rfl rfl (by decide) ⟨.int (lo + i), H, I1, ⟨t, ?_⟩, ⟨rfl, rfl⟩, st', fun b hb => (hf b hb).1⟩⟩
    rw [Int.mul_one]
  done := by
    intro X hP hw hK hc i pins s σ H E I hf st hg
    subst hP hw hK
    obtain ⟨f0, f1, f2, f3, f4, f5⟩ := hf it (by simp)
    exact wpAny_pyNext_long_end (I.ok.hd hc) st (by have : n ≤ i := hg; omega) fun h' eb => ⟨rfl, I.turned (t' := s.toks) (fun b o hb e => eb b o hb e) f0 f1 f3 f4 f5⟩
  self := fun _ _ _ _ _ st h => wpAny_pyIter_longiter st h
section
variable {X : Cx} {W : WX} {tg : Expr}
theorem range_itW {pins : List (Addr × Obj)} {σ : L2.St} {H : Hp} {s : Shared} {R : It → Hp → Prop} {E : Value → Shared → Prop} {lo hi : Int} {t u v : Tok} {tk : Nat} (I : Inv X pins σ H s)
    (q : R (Itr lo (hi - lo).toNat) H) : wpAny (model X.prog X.w) X.A (pyIter (.ref s.heap.objs.size)) (PIE X pins σ tg R) E { s with heap := s.heap.push { cls := .type "range", data := .fields #[.int lo t, .int hi u, .int 1 v] }, toks := tk } := by
  have I1 : Inv X pins σ H { s with heap := s.heap.push { cls := .type "range", data := .fields #[.int lo t, .int hi u, .int 1 v] }, toks := tk } := I.kept fun b o e => Heap.get?_push_of_some _ e
  have e1 : lo + ((0 : Nat) : Int) * 1 = lo := by simp
  have e2 : (((hi - lo).toNat : Nat) : Int) - ((0 : Nat) : Int) = Builtin.Range.rangeSize lo hi 1 := by rw [rangeSize_one]; split <;> omega
  cases sm : Builtin.Range.small lo hi 1 with
  | true =>
    refine wpAny_pyIter_range (IsRange.new ..) sm ?_
    refine ⟨(s.heap.push { cls := .type "range", data := .fields #[.int lo t, .int hi u, .int 1 v] }).objs.size, [(s.heap.push { cls := .type "range", data := .fields #[.int lo t, .int hi u, .int 1 v] }).objs.size], _, _, H, rfl,
      I1.kept (t' := tk) fun b o e => Heap.get?_push_of_some _ e, turn_range _ lo (hi - lo).toNat, ?_, fun b hb => ?_, q⟩
    · show IsRangeIter _ _ (lo + ((0 : Nat) : Int) * 1) ((((hi - lo).toNat : Nat) : Int) - ((0 : Nat) : Int)) 1
      rw [e1, e2]
      exact Heap.get?_push_size _ rfl
    · have e : b = (s.heap.push { cls := .type "range", data := .fields #[.int lo t, .int hi u, .int 1 v] }).objs.size := by simpa using hb
      subst e
      exact I1.fpOk (Nat.le_refl _) (I1.hok.fresh (Nat.le_refl _))
  | false =>
    refine wpAny_pyIter_longrange (IsRange.new ..) sm ?_
    refine ⟨(s.heap.push { cls := .type "range", data := .fields #[.int lo t, .int hi u, .int 1 v] }).objs.size, [(s.heap.push { cls := .type "range", data := .fields #[.int lo t, .int hi u, .int 1 v] }).objs.size], _, _, H, rfl,
      I1.kept (t' := tk) fun b o e => Heap.get?_push_of_some _ e, turn_long _ lo (hi - lo).toNat, ?_, fun b hb => ?_, q⟩
    · show IsLongIter _ _ (lo + ((0 : Nat) : Int) * 1) ((((hi - lo).toNat : Nat) : Int) - ((0 : Nat) : Int)) 1
      rw [e1, e2]
      exact Heap.get?_push_size _ rfl
    · have e : b = (s.heap.push { cls := .type "range", data := .fields #[.int lo t, .int hi u, .int 1 v] }).objs.size := by simpa using hb
      subst e
      exact I1.fpOk (Nat.le_refl _) (I1.hok.fresh (Nat.le_refl _))
def iRngW (ta : TA) : TI := fun σ H R => ta σ H fun vs H1 => ∃ i j : Int, vs = [.int i, .int j] ∧ R (Itr i (j - i).toNat) H1
theorem pi_rangeW {a b : Expr} {ta : TA} {p pos : Pos} (hg : Gl X "range") (hm : X.mg "range" = none) (ha : PA X [a, b] ta) (hs : starEach [a, b] X.env = [(false, eval a X.env), (false, eval b X.env)] := by rfl) (hs2 : starEach [b] X.env = [(false, eval b X.env)] := by rfl) :
    PI X tg (.Call (.Name "range" p) [a, b] [] pos) (iRngW ta) := by
  refine ⟨fun pins s σ H R I h => ?_⟩
  refine Call_ (ld_blt I hg hm boot_range (PyProof.Rows.callWith_type1 (thn (ha.run pos pins s σ H _ I h) fun us s1 ⟨vs, H1, I1, r1, q1⟩ => ?_) (by rw [hs, hs2]) (by rw [hs2]; rfl)))
  obtain ⟨i, j, e, q⟩ := q1
  subst e
  cases r1 with
  | cons r rr =>
    cases rr with
    | cons r' rr =>
      cases rr
      obtain ⟨t, rfl⟩ := r
      obtain ⟨t', rfl⟩ := r'
      exact call_range_2 (range_itW I1 q)
def iRangeW (a : AM) : IM := fun s h Q E => a s h (fun ts h1 => match ts with
  | [.int i, .int j] => Q (rng i (j - i).toNat) (fun _ => True) h1
  | _ => False) E
theorem ji_rangeW {e e2 : Expr} {a : AM} {p pos : Pos} (hg : Gl X "range") (hm : X.mg "range" = none) (ha : JA X W [e, e2] a) (hs : starEach [e, e2] X.env = [(false, eval e X.env), (false, eval e2 X.env)] := by rfl) (hs2 : starEach [e2] X.env = [(false, eval e2 X.env)] := by rfl) :
    JI X W tg (.Call (.Name "range" p) [e, e2] [] pos) (iRangeW a) := PI.wk (pi_rangeW hg hm ha hs hs2) fun σ H R ⟨S, h, s, Q, E, m, rs, lk, hm, pk⟩ =>
  ⟨S, h, s, _, E, m, rs, lk, hm, fun S1 H1 h1 vs ts f1 m1 r1 q1 => by
    split at q1
    · cases r1 with
      | cons ra rn => cases rn with
        | cons rb rn =>
          cases rn; cases ra; cases rb
          exact ⟨_, _, rfl, pk S1 H1 h1 _ _ _ f1 m1 rng_it q1⟩
    · exact q1.elim⟩
end
end TL

namespace TL
open PySem PySem.Spec PySem.Calls L2 PyProof.Rows
section
variable {X : Cx} {W : WX} {K : PySem.W.Frag} {C : Addr}
structure PropSet (K : PySem.W.Frag) (C : Addr) (f : Str) (p g : Addr) : Prop where
  tk : PySem.W.takerIn K C f = some (some (.ref p))
  ty : PySem.W.typeIn K (.ref p) = some (.type "property")
  rc : ∃ a rest, PySem.W.recIn K p "property" = some (a :: .ref g :: rest)
def sPropT (C : Addr) (c : Con) (mo mv : EM) : SM := fun D s h => mv s h (fun y h1 => mo s h1 (fun x h2 => match insOf h2 x with
  | some (C', _) => C' = C ∧ c [x, y] h2 (fun _ h3 => D.nx s h3) fun z h3 => D.ex z s h3
  | none => False) D.ex) D.ex
theorem ps_pset {CX : CXT} {k : Nat} {p g : Addr} {fd : FuncData} {ps : List Str} {sp : Sp} {E : L2.St → XK} {f : Str} {o e : Expr} {ta tv : TE} {pos pos' : Pos} (c : Cls X.K C) (hp : PropSet X.K C f p g) (F : FnOk X.prog X.w X.K X.mg X.base CX k g fd ps sp) (hr : Room (k + 2) X.A) (hb : Binds X.K fd ps []) (hx : ∀ σ, PassesAt CX X σ (E σ))
    (ha : PE X o ta) (hv : PE X e tv) (hs : swapsWith e (some (.Attribute o f pos')) pos.line X.env = pure false) :
    PS X (.Assign [.Attribute o f pos'] e pos) (fun D σ H => tv σ H fun y H1 => ta σ H1 fun x H2 => ∃ a dx fs, x = .ref a ∧ H2 a = some (.ins C dx fs) ∧ sp [.ref a, y] H2 (fun _ H3 => D.nx σ H3) (E σ)) := by
  refine ⟨fun pins s σ H D I h => ?_⟩
  refine plainObj_wpAny_Assign_Attribute (thn (hv.run pins s σ H _ I h) fun u s1 ⟨y, H1, I1, ry, q⟩ => thn (ha.run pins s1 σ H1 _ I1 q) fun ov s2 ⟨x, H2, I2, rx, a, dx, fs, ex, ea, q2⟩ => ?_) hs
  subst ex
  obtain rfl : ov = Value.ref a := rx
  obtain ⟨od, Ja⟩ := instAt I2 ea
  obtain ⟨mm, fr⟩ := I2.fr
  obtain ⟨a0, rest, hrec⟩ := hp.rc
  have I3 := I2.tok (s2.toks + 1)
  refine PySem.W.set_prop fr I2.ok.mod.kin Ja c.sa c.po hp.tk hp.ty hrec ?_
  have hl : ([Value.ref a, u] ++ []).length = ps.length := (F.len _ _ _ _ q2)
  have bd := hb { s2 with toks := s2.toks + 1 } [.ref a, u] I3.kIn hl
  rw [List.append_nil] at bd
  refine codeAny_mono (F.run X.A.in1.in1 X.stack { s2 with toks := s2.toks + 1 } H2 ⟨[.ref a, u], []⟩ [.ref a, u] [.ref a, y] _ (E σ) hr.in1.in1 I3.env0.in1.in1 bd (.cons rfl (.cons ry .nil)) q2) fun r s' hq => ?_
  cases r with
  | error e => exact hx σ pins H2 _ e s' I3 hq
  | ok fl =>
    cases fl with
    | ret u =>
      obtain ⟨v, H', I4, rv, q4⟩ := I3.after hq
      exact ⟨σ, H', I4, q4⟩
    | next => exact False.elim hq
    | brk => exact False.elim hq
    | cont => exact False.elim hq
theorem js_pset {CX : CXT} {k : Nat} {p g : Addr} {fd : FuncData} {ps : List Str} {c : Con} {f : Str} {o e : Expr} {mo mv : EM} {pos pos' : Pos} (cl : Cls X.K C) (hp : PropSet X.K C f p g) (F : FnOk X.prog X.w X.K X.mg X.base CX k g fd ps (liftSp X.K 2 c)) (hr : Room (k + 2) X.A) (hb : Binds X.K fd ps []) (hx : ∀ σ, PassesAt CX X σ (WE W σ))
    (ho : JE X W o mo) (hv : JE X W e mv) (hs : swapsWith e (some (.Attribute o f pos')) pos.line X.env = pure false := by rfl) : JS X W (.Assign [.Attribute o f pos'] e pos) (sPropT C c mo mv) := PS.wk (ps_pset (E := WE W) cl hp F hr hb hx ho hv hs) fun D' σ H ⟨S, h, s, D, m, rs, lk, hm⟩ =>
  ⟨S, h, s, _, D.ex, m, rs, lk.ex, hm, fun S1 H1 h1 v y f1 m1 r1 q1 => ⟨S1, h1, s, _, D.ex, m1, rs.fut f1, lk.ex.fut f1, q1, fun S2 H2 h2 w x f2 m2 r2 q2 => by
    split at q2
    · rename_i C' gs e
      obtain ⟨rfl, q2⟩ := q2
      obtain ⟨a, dx, fs, rfl, ea, rf⟩ := insOf_ok m2 r2 e
      have f12 := f1.trans f2
      exact ⟨a, dx, fs, rfl, ea, S2, h2, [x, y], _, _, m2, .cons r2 (.cons (r1.fut f2) .nil), rfl, q2, fun S3 H3 h3 z u f3 m3 r3 q3 => lk.nx S3 H3 h3 σ s (f12.trans f3) m3 (rs.fut (f12.trans f3)) q3, fun S3 H3 h3 z cls d f3 m3 r3 q3 => lk.ex S3 H3 h3 σ s z cls d (f12.trans f3) m3 (rs.fut (f12.trans f3)) r3 q3⟩
    · exact q2.elim⟩⟩
structure StM (K : PySem.W.Frag) (C : Addr) (m : Str) (f : Addr) : Prop where
  rd : ∃ mc p rest, PySem.W.typeIn K (.ref C) = some mc ∧ PySem.W.readsIn K C mc = true ∧ PySem.W.findCls K (.ref C) mc m = some (.get (.builtin "staticmethod.__get__") (.ref p) .none (.ref C)) ∧ PySem.W.recIn K p "staticmethod" = some (.ref f :: rest)
  ga : PySem.W.specialIn K (.ref C) "__getattribute__" = some (some (.builtin "type.__getattribute__"))
  kp : PySem.W.keepIn K (.ref f) = true
theorem getst_ok {pins : List (Addr × Obj)} {σ : L2.St} {H : Hp} {s : Shared} {m : Str} {f : Addr} {pl : Sem Bool} {A : Around} {Q : Value × List Value → Shared → Prop} {E : Value → Shared → Prop} (I : Inv X pins σ H s) (h0 : StM X.K C m f)
    (h : Q (.ref f, []) { s with toks := s.toks + 1 }) : wpAny (model X.prog X.w) A (getMethod (.ref C) m pl) Q E s := by
  obtain ⟨mc, p, rest, h1, h2, h3, h4⟩ := h0.rd
  obtain ⟨mm, fr⟩ := I.fr
  exact PySem.W.method_of_cls fr I.ok.mod.kin h0.ga (PySem.W.cls_sm fr I.ok.mod.kin h1 h2 h3 h4 rfl h)
theorem pe_stat {CX : CXT} {k : Nat} {f : Addr} {fd : FuncData} {ps : List Str} {sp : Sp} {E : L2.St → XK} {m x : Str} {e : Expr} {es : List Expr} {t : TA} {p pos apos : Pos} {pl : Sem Bool} (hg : Gl X x) (hm : X.mg x = some (.ref C)) (hs : StM X.K C m f) (F : FnOk X.prog X.w X.K X.mg X.base CX k f fd ps sp) (hr : Room k X.A) (hb : Binds X.K fd ps []) (hx : ∀ σ, PassesAt CX X σ (E σ)) (ha : PA X (e :: es) t) (hd : (x == ("__debug__" : Str)) = false)
    (hst : starEach (e :: es) X.env = (false, eval e X.env) :: starEach es X.env) (hpl : (backTo pos (starEach es X.env)).any (·.1) = false)
    (ht : eval (.Call (.Attribute (.Name x p) m apos) (e :: es) [] pos) X.env = (do
      let ov ← eval (.Name x p) X.env
      standAt apos.atName
      let (f, first) ← holding [ov] (getMethod ov m pl)
      callWith pos f first (backTo pos (starEach (e :: es) X.env)) (backToKw pos (keywordEach [] X.env)))) :
    PE X (.Call (.Attribute (.Name x p) m apos) (e :: es) [] pos) (fun σ H Q => t σ H fun vs H1 => sp vs H1 Q (E σ)) := ⟨fun pins s σ H Q I h => by
  refine PySem.W.methodCall_KW (pl := pl) (thn ((pe_glob (v := .ref C) hg hm rfl hd).run pins s σ H (fun y H1 => y = .ref C ∧ H1 = H) I ⟨rfl, rfl⟩) fun u s1 ⟨y, H1, I1, ry, ey, eH⟩ => ?_) ht
  subst ey eH
  obtain rfl : u = Value.ref C := ry
  have I2 := I1.tok (s1.toks + 1)
  refine getst_ok I1 hs (PySem.W.callWith_K (first := []) (h₀ := X.base) I.ok.mod.kin hs.kp (thn (ha.run pos pins _ σ _ _ I2 h) fun us s2 ⟨vs, H2, I3, r, q2⟩ => ⟨I3.kIn, ?_⟩) hst hpl)
  exact run_fnS (us := us) (vs := vs) F hr hb (hx σ) I3 r q2⟩
theorem pe_stat0 {CX : CXT} {k : Nat} {f : Addr} {fd : FuncData} {ps : List Str} {sp : Sp} {E : L2.St → XK} {m x : Str} {p pos apos : Pos} {pl : Sem Bool} (hg : Gl X x) (hm : X.mg x = some (.ref C)) (hs : StM X.K C m f) (F : FnOk X.prog X.w X.K X.mg X.base CX k f fd ps sp) (hr : Room k X.A) (hb : Binds X.K fd ps []) (hx : ∀ σ, PassesAt CX X σ (E σ)) (hd : (x == ("__debug__" : Str)) = false)
    (ht : eval (.Call (.Attribute (.Name x p) m apos) [] [] pos) X.env = (do
      let ov ← eval (.Name x p) X.env
      standAt apos.atName
      let (f, first) ← holding [ov] (getMethod ov m pl)
      callWith pos f first (backTo pos (starEach [] X.env)) (backToKw pos (keywordEach [] X.env)))) :
    PE X (.Call (.Attribute (.Name x p) m apos) [] [] pos) (fun σ H Q => sp [] H Q (E σ)) := ⟨fun pins s σ H Q I h => by
  refine PySem.W.methodCall_KW (pl := pl) (thn ((pe_glob (v := .ref C) hg hm rfl hd).run pins s σ H (fun y H1 => y = .ref C ∧ H1 = H) I ⟨rfl, rfl⟩) fun u s1 ⟨y, H1, I1, ry, ey, eH⟩ => ?_) ht
  subst ey eH
  obtain rfl : u = Value.ref C := ry
  have I2 := I1.tok (s1.toks + 1)
  exact getst_ok I1 hs (PySem.W.callWith_K0 (first := []) I2.kIn hs.kp (run_fnS (us := []) (vs := []) F hr hb (hx σ) I2 .nil h))⟩
theorem j_stat {CX : CXT} {k n : Nat} {f : Addr} {fd : FuncData} {ps : List Str} {c : Con} {m x : Str} {e : Expr} {es : List Expr} {ma : AM} {p pos apos : Pos} {pl : Sem Bool} (hg : Gl X x) (hm : X.mg x = some (.ref C)) (hs : StM X.K C m f) (F : FnOk X.prog X.w X.K X.mg X.base CX k f fd ps (liftSp X.K n c)) (hr : Room k X.A) (hb : Binds X.K fd ps []) (hx : ∀ σ, PassesAt CX X σ (WE W σ)) (ha : JA X W (e :: es) ma) (hd : (x == ("__debug__" : Str)) = false := by decide)
    (hst : starEach (e :: es) X.env = (false, eval e X.env) :: starEach es X.env := by rfl) (hpl : (backTo pos (starEach es X.env)).any (·.1) = false := by rfl)
    (ht : eval (.Call (.Attribute (.Name x p) m apos) (e :: es) [] pos) X.env = (do
      let ov ← eval (.Name x p) X.env
      standAt apos.atName
      let (f, first) ← holding [ov] (getMethod ov m pl)
      callWith pos f first (backTo pos (starEach (e :: es) X.env)) (backToKw pos (keywordEach [] X.env))) := by rfl) :
    JE X W (.Call (.Attribute (.Name x p) m apos) (e :: es) [] pos) (eCall n c ma) := PE.wk (pe_stat (E := WE W) hg hm hs F hr hb hx ha hd hst hpl ht) fun σ H Q' ⟨S, h, s, Q, E, m, rs, lk, hm, pk⟩ =>
  ⟨S, h, s, _, E, m, rs, lk, hm, fun S1 H1 h1 vs ts f1 m1 r1 ⟨l1, q1⟩ => ⟨S1, h1, ts, Q, _, m1, r1, l1, q1, pk.fut f1, fun S2 H2 h2 x cls d f2 m2 r2 q2 => lk S2 H2 h2 σ s x cls d (f1.trans f2) m2 (rs.fut (f1.trans f2)) r2 q2⟩⟩
theorem j_stat0 {CX : CXT} {k : Nat} {f : Addr} {fd : FuncData} {ps : List Str} {c : Con} {m x : Str} {p pos apos : Pos} {pl : Sem Bool} (hg : Gl X x) (hm : X.mg x = some (.ref C)) (hs : StM X.K C m f) (F : FnOk X.prog X.w X.K X.mg X.base CX k f fd ps (liftSp X.K 0 c)) (hr : Room k X.A) (hb : Binds X.K fd ps []) (hx : ∀ σ, PassesAt CX X σ (WE W σ)) (hd : (x == ("__debug__" : Str)) = false := by decide)
    (ht : eval (.Call (.Attribute (.Name x p) m apos) [] [] pos) X.env = (do
      let ov ← eval (.Name x p) X.env
      standAt apos.atName
      let (f, first) ← holding [ov] (getMethod ov m pl)
      callWith pos f first (backTo pos (starEach [] X.env)) (backToKw pos (keywordEach [] X.env))) := by rfl) :
    JE X W (.Call (.Attribute (.Name x p) m apos) [] [] pos) (eCall 0 c aNil) := PE.wk (pe_stat0 (E := WE W) hg hm hs F hr hb hx hd ht) fun σ H Q' ⟨S, h, s, Q, E, m, rs, lk, hm, pk⟩ =>
  ⟨S, h, [], Q, _, m, .nil, rfl, hm.2, pk, fun S2 H2 h2 x cls d f2 m2 r2 q2 => lk S2 H2 h2 σ s x cls d f2 m2 (rs.fut f2) r2 q2⟩
theorem callWith_inst {M : Model} {A : Around} {E : Value → Shared → Prop} {s : Shared} {pos : Pos} {x : Addr} {first : List Value} {Q : Value → Shared → Prop} {args : List (Bool × Sem Value)} {keywords : List (Option Str × Sem Value)} (hplain : (args.any (·.1) || keywords.any (·.1.isNone)) = false)
    (h : wpAny M A (evalArgs (.ref x) true args keywords) (fun a s₁ => (∃ ox od, PySem.W.InstAt s₁.heap x ox C od ∧ ox.data = .plain) ∧ wpAny M A (call (.ref x) (first ++ a.pos) a.kw) Q E s₁) E s) : wpAny M A (callWith pos (.ref x) first args keywords) Q E s := by
  unfold callWith
  refine wpAny_bind (wpAny_holding (wpAny_mono h (fun a s₁ ⟨⟨ox, od, J, hd⟩, h₁⟩ => wpAny_bind (wpAny_standAt ?_)) fun _ _ y => y))
  simp only [hplain]
  refine wpAny_bind ((PySem.W.kco_keeper (M := M) J hd).here ?_)
  exact wpAny_bind (wpAny_mono (wpAny_operateT h₁) (fun r s₂ hr => wpAny_bind (wpAny_holding (wpAny_point (wpAny_pure hr)))) fun _ _ y => y)
theorem run_own {CX : CXT} {k : Nat} {f a dx : Addr} {fs : List (Str × V)} {fd : FuncData} {ps : List Str} {sp : Sp} {E : XK} {pins : List (Addr × Obj)} {σ : L2.St} {H : Hp} {s : Shared} {Q : VK} {us : List Value} {vs : List V} (hm : Meth X.K C "__call__" f) (hfn : PySem.W.fnIn X.K f = true) (F : FnOk X.prog X.w X.K X.mg X.base CX k f fd ps sp) (hr : Room k X.A) (hb : Binds X.K fd ps []) (hx : PassesAt CX X σ E)
    (I : Inv X pins σ H s) (ea : H a = some (.ins C dx fs)) (r : Vals vs us) (h : sp (.ref a :: vs) H Q E) : wpAny (model X.prog X.w) X.A (call (.ref a) us) (EP X pins σ Q) X.xe s := by
  obtain ⟨od, J⟩ := instAt I ea
  have r2 : Vals (.ref a :: vs) (.ref a :: us) := .cons rfl r
  have hl : (Value.ref a :: us).length = ps.length := by rw [← r2.length]; exact F.len _ _ _ _ h
  have b := hb s (.ref a :: us) I.kIn (by rw [List.append_nil]; exact hl)
  rw [List.append_nil] at b
  refine wpAny_call (PySem.W.kco_code I.kIn J rfl hm.at_ hm.fn hfn (codeAny_mono (F.run X.A X.stack s H ⟨.ref a :: us, []⟩ (.ref a :: us) (.ref a :: vs) Q E hr I.env0 b r2 h) fun r s' hq => ?_))
  cases r with
  | error e => exact hx pins H s e s' I hq
  | ok fl =>
    cases fl with
    | ret u => exact I.after hq
    | next => exact False.elim hq
    | brk => exact False.elim hq
    | cont => exact False.elim hq
theorem pe_own {CX : CXT} {k : Nat} {f : Addr} {fd : FuncData} {ps : List Str} {sp : Sp} {E : L2.St → XK} {o e : Expr} {es : List Expr} {ta : TE} {t : TA} {pos : Pos} (hm : Meth X.K C "__call__" f) (hfn : PySem.W.fnIn X.K f = true) (F : FnOk X.prog X.w X.K X.mg X.base CX k f fd ps sp) (hr : Room k X.A) (hb : Binds X.K fd ps []) (hx : ∀ σ, PassesAt CX X σ (E σ)) (ho : PE X o ta) (ha : PA X (e :: es) t)
    (he : starEach (e :: es) X.env = (false, eval e X.env) :: starEach es X.env) (hpl : (backTo pos (starEach es X.env)).any (·.1) = false)
    (ht : eval (.Call o (e :: es) [] pos) X.env = (do callWith pos (← eval o X.env) [] (backTo pos (starEach (e :: es) X.env)) (backToKw pos (keywordEach [] X.env)))) :
    PE X (.Call o (e :: es) [] pos) (fun σ H Q => ta σ H fun x H1 => ∃ a, x = .ref a ∧ t σ H1 fun vs H2 => ∃ dx fs, H2 a = some (.ins C dx fs) ∧ sp (.ref a :: vs) H2 Q (E σ)) := ⟨fun pins s σ H Q I h => by
  refine Call_ (thn (ho.run pins s σ H _ I h) fun u s1 ⟨x, H1, I1, rx, a, ex, q⟩ => ?_) ht
  subst ex
  obtain rfl : u = Value.ref a := rx
  have z := thn (ha.run pos pins s1 σ H1 _ I1 q) (Q' := fun us s2 => (∃ ox od, PySem.W.InstAt s2.heap a ox C od ∧ ox.data = .plain) ∧ wpAny (model X.prog X.w) X.A (call (.ref a) ([] ++ us)) (EP X pins σ Q) X.xe s2) fun us s2 ⟨vs, H2, I2, r, dx, fs, ea, q2⟩ => by
    obtain ⟨od, J⟩ := instAt I2 ea
    exact ⟨⟨_, _, J, rfl⟩, run_own hm hfn F hr hb (hx σ) I2 ea r q2⟩
  rw [he] at z ⊢
  exact callWith_inst (by show ((false || (backTo pos (starEach es X.env)).any (·.1)) || false) = false; rw [hpl]; rfl) (evalArgs_plain z)⟩
def eOwnCall (C : Addr) (n : Nat) (c : Con) (mo : EM) (ma : AM) : EM := fun s h Q E => mo s h (fun x h1 => (insOf h1 x).isSome = true ∧ ma s h1 (fun ts h2 => match insOf h2 x with
  | some (C', _) => C' = C ∧ ts.length + 1 = n ∧ c (x :: ts) h2 Q fun y h3 => E y s h3
  | none => False) E) E
theorem j_ownCall {CX : CXT} {k n : Nat} {f : Addr} {fd : FuncData} {ps : List Str} {c : Con} {o e : Expr} {es : List Expr} {mo : EM} {ma : AM} {pos : Pos} (hm : Meth X.K C "__call__" f) (hfn : PySem.W.fnIn X.K f = true) (F : FnOk X.prog X.w X.K X.mg X.base CX k f fd ps (liftSp X.K n c)) (hr : Room k X.A) (hb : Binds X.K fd ps []) (hx : ∀ σ, PassesAt CX X σ (WE W σ)) (ho : JE X W o mo) (ha : JA X W (e :: es) ma)
    (he : starEach (e :: es) X.env = (false, eval e X.env) :: starEach es X.env := by rfl) (hpl : (backTo pos (starEach es X.env)).any (·.1) = false := by rfl)
    (ht : eval (.Call o (e :: es) [] pos) X.env = (do callWith pos (← eval o X.env) [] (backTo pos (starEach (e :: es) X.env)) (backToKw pos (keywordEach [] X.env))) := by rfl) :
    JE X W (.Call o (e :: es) [] pos) (eOwnCall C n c mo ma) := PE.wk (pe_own (E := WE W) hm hfn F hr hb hx ho ha he hpl ht) fun σ H Q' ⟨S, h, s, Q, E, m, rs, lk, hm, pk⟩ =>
  ⟨S, h, s, _, E, m, rs, lk, hm, fun S1 H1 h1 v x f1 m1 r1 ⟨i1, q1⟩ => by
    obtain ⟨⟨C1, g1⟩, e1⟩ := Option.isSome_iff_exists.mp i1
    obtain ⟨a, dx, fs, rfl, ea, _⟩ := insOf_ok m1 r1 e1
    refine ⟨a, rfl, S1, h1, s, _, E, m1, rs.fut f1, lk.fut f1, q1, fun S2 H2 h2 vs ts f2 m2 r2 q2 => ?_⟩
    split at q2
    · rename_i C2 g2 e2
      obtain ⟨rfl, l2, q2⟩ := q2
      obtain ⟨a', dx', fs', ev, ea', _⟩ := insOf_ok m2 (r1.fut f2) e2
      cases ev
      exact ⟨dx', fs', ea', S2, h2, x :: ts, Q, _, m2, .cons (r1.fut f2) r2, l2, q2, pk.fut (f1.trans f2), fun S3 H3 h3 y cls d f3 m3 r3 q3 => lk S3 H3 h3 σ s y cls d ((f1.trans f2).trans f3) m3 (rs.fut ((f1.trans f2).trans f3)) r3 q3⟩
    · exact q2.elim⟩
end
end TL

namespace TL
open PySem L2
def kT : Key → T
  | .inl i => .int i
  | .inr x => .str x
section
variable {X : Cx} {W : WX} {K : PySem.W.Frag} {S : Fz} {H : Hp} {h : Hq}
theorem kT_rep (k : Key) : Rep K S H (kV k) (kT k) := by
  cases k with
  | inl i => exact .int i
  | inr x => exact .str x
theorem RepD.get {κ : Type} [DecidableEq κ] {kvs : List (κ × V)} {gs : List (κ × T)} (r : RepD K S H kvs gs) {i : Nat} {k : κ} {t : T} (e : gs[i]? = some (k, t)) : ∃ v, kvs[i]? = some (k, v) ∧ Rep K S H v t := by
  obtain ⟨h1, h2⟩ := r
  have e2 : (gs.map (·.2))[i]? = some t := by rw [List.getElem?_map, e]; rfl
  have e1 : (gs.map (·.1))[i]? = some k := by rw [List.getElem?_map, e]; rfl
  obtain ⟨v, ev, rv⟩ := h2.get e2
  rw [← h1] at e1
  rw [List.getElem?_map] at ev e1
  cases z : kvs[i]? with
  | none => rw [z] at ev; cases ev
  | some q =>
    rw [z] at ev e1
    cases ev; cases e1
    exact ⟨_, rfl, rv⟩
theorem js_dput {o i e : Expr} {mo mi mv : EM} {pos pos' : Pos} (hu : X.A.units + 1 < cLine) (ho : JE X W o mo) (hi : JE X W i mi) (hv : JE X W e mv) (hs : swapsWith e (some (.Subscript o i pos')) pos.line X.env = pure false := by rfl) :
    JS X W (.Assign [.Subscript o i pos'] e pos) (sDPutT mo mi mv) := PS.wk (ps_dput hu ho hi hv hs) fun D' σ H ⟨S, h, s, D, m, rs, lk, hm⟩ =>
  ⟨S, h, s, _, D.ex, m, rs, lk.ex, hm, fun S1 H1 h1 v t f1 m1 r1 q1 => ⟨S1, h1, s, _, D.ex, m1, rs.fut f1, lk.ex.fut f1, q1, fun S2 H2 h2 x tx f2 m2 r2 q2 => ⟨S2, h2, s, _, D.ex, m2, rs.fut (f1.trans f2), lk.ex.fut (f1.trans f2), q2, fun S3 H3 h3 y ty f3 m3 r3 q3 => by
    split at q3
    · split at q3
      · obtain ⟨hl, q3⟩ := q3
        split at q3
        · rename_i p _ gs e _ k ek
          cases r2
          rw [keyT_ok r3 ek]
          obtain ⟨kvs, e1, r⟩ := ref_dK m3 e
          have f4 : Fut S3 H3 S3 (upd H3 p (.dK (putK kvs k v))) := fut_upd (m3.nS' e)
          exact ⟨p, _, rfl, DPut.k e1 (lim_lt (by rw [r.length]; exact Nat.le_of_lt hl)), lk.nx S3 _ _ σ s (((f1.trans f2).trans f3).trans f4) (m3.write (o' := .dK (putD gs k t)) e ⟨_, rfl, r.put (r1.fut (f2.trans f3))⟩) (rs.fut (((f1.trans f2).trans f3).trans f4)) q3⟩
        · exact q3.elim
      · exact q3.elim
    · exact q3.elim⟩⟩⟩
def sLk (m : SM) : SM := fun D s h => ∃ p gs, h p = some (.dK gs) ∧ ∀ u : HO, m { nx := fun s' h' => h' p = some (.dL u gs) ∧ D.nx s' (put h' p (.dK gs)), rt := fun v h' => h' p = some (.dL u gs) ∧ D.rt v (put h' p (.dK gs)), bk := fun s' h' => h' p = some (.dL u gs) ∧ D.bk s' (put h' p (.dK gs)), ct := fun s' h' => h' p = some (.dL u gs) ∧ D.ct s' (put h' p (.dK gs)), ex := D.ex } s (put h p (.dL u gs))
theorem unlock_ok {S1 : Fz} {H1 : Hp} {h1 : Hq} {p : Addr} {od : Obj} {kvs : List (Key × V)} {gs : List (Key × T)} (m1 : Sim K S1 H1 h1) (n : ¬ S.has p) (f : Fut S (upd H p (.frz od (.dK kvs))) S1 H1) (q1 : h1 p = some (.dL (.frz od (.dK kvs)) gs)) :
    H1 p = some (.frz od (.dK kvs)) ∧ Sim K S1 (upd H1 p (.dK kvs)) (put h1 p (.dK gs)) ∧ Fut S H S1 (upd H1 p (.dK kvs)) ∧ Fut S1 H1 S1 (upd H1 p (.dK kvs)) := by
  obtain ⟨u, e2, e3, o, kv2, e4, r2⟩ := m1.ob p _ q1
  subst e3
  cases e4
  have f2 : Fut S1 H1 S1 (upd H1 p (.dK kvs)) := fut_upd (m1.nS' q1)
  exact ⟨e2, m1.write (o' := .dK gs) q1 ⟨kvs, rfl, r2⟩, ((fut_upd n).trans f).trans f2, f2⟩
theorem js_lk {st : Stmt} {m : SM} (j : JS X W st m) : JS X W st (sLk m) := PS.wk (ps_lock j) fun D' σ H ⟨S, h, s, D, m, rs, lk, ⟨p, gs, e, hm⟩⟩ => by
  obtain ⟨kvs, e1, r⟩ := ref_dK m e
  have n := m.nS' e
  refine ⟨p, .dK kvs, e1, trivial, fun od => ⟨S, _, s, _, m.write (o' := .dL (.frz od (.dK kvs)) gs) e ⟨rfl, od, kvs, rfl, r⟩, rs.fut (fut_upd n), ?_, hm _⟩⟩
  refine ⟨fun S1 H1 h1 σ1 s1 f1 m1 r1 ⟨q1, q2⟩ => ?_, fun S1 H1 h1 v1 t1 f1 m1 r1 ⟨q1, q2⟩ => ?_, fun S1 H1 h1 σ1 s1 f1 m1 r1 ⟨q1, q2⟩ => ?_, fun S1 H1 h1 σ1 s1 f1 m1 r1 ⟨q1, q2⟩ => ?_, lk.ex.fut (fut_upd n)⟩
  · obtain ⟨a1, a2, a3, a4⟩ := unlock_ok m1 n f1 q1
    exact ⟨a1, lk.nx S1 _ _ σ1 s1 a3 a2 (r1.fut a4) q2⟩
  · obtain ⟨a1, a2, a3, a4⟩ := unlock_ok m1 n f1 q1
    exact ⟨a1, lk.rt S1 _ _ v1 t1 a3 a2 (r1.fut a4) q2⟩
  · obtain ⟨a1, a2, a3, a4⟩ := unlock_ok m1 n f1 q1
    exact ⟨a1, lk.bk S1 _ _ σ1 s1 a3 a2 (r1.fut a4) q2⟩
  · obtain ⟨a1, a2, a3, a4⟩ := unlock_ok m1 n f1 q1
    exact ⟨a1, lk.ct S1 _ _ σ1 s1 a3 a2 (r1.fut a4) q2⟩
def eLk (m : EM) : EM := fun s h Q E => ∃ p gs, h p = some (.dK gs) ∧ ∀ u : HO, m s (put h p (.dL u gs)) (fun v h' => h' p = some (.dL u gs) ∧ Q v (put h' p (.dK gs))) E
theorem j_lk {e : Expr} {m : EM} (j : JE X W e m) : JE X W e (eLk m) := PE.wk (pe_lock j) fun σ H Q' ⟨S, h, s, Q, E, m, rs, lk, ⟨p, gs, e, hm⟩, pk⟩ => by
  obtain ⟨kvs, e1, r⟩ := ref_dK m e
  have n := m.nS' e
  refine ⟨p, .dK kvs, e1, trivial, fun od => ⟨S, _, s, _, E, m.write (o' := .dL (.frz od (.dK kvs)) gs) e ⟨rfl, od, kvs, rfl, r⟩, rs.fut (fut_upd n), lk.fut (fut_upd n), hm _, fun S1 H1 h1 v1 t1 f1 m1 r1 ⟨q1, q2⟩ => ?_⟩⟩
  obtain ⟨a1, a2, a3, a4⟩ := unlock_ok m1 n f1 q1
  exact ⟨a1, pk S1 _ _ v1 t1 a3 a2 (r1.fut a4) q2⟩
def keysT (gs : List (Key × T)) : List T := gs.map fun q => kT q.1
def valsT (gs : List (Key × T)) : List T := gs.map fun q => q.2
def itemsT (gs : List (Key × T)) : List T := gs.map fun q => T.tup [kT q.1, q.2]
def iDict (f : List (Key × T) → List T) (a : EM) : IM := fun s h Q E => a s h (fun x h1 => match x with
  | .ref p => match h1 p with
    | some (.dL u gs) => Q (f gs) (fun h2 => h2 p = some (.dL u gs)) h1
    | _ => False
  | _ => False) E
theorem lock_at {S1 : Fz} {H1 : Hp} {h1 : Hq} {p : Addr} {o : Obj} {kvs : List (Key × V)} {gs : List (Key × T)} (m1 : Sim K S1 H1 h1) (st : h1 p = some (.dL (.frz o (.dK kvs)) gs)) : H1 p = some (.frz o (.dK kvs)) ∧ RepD K S1 H1 kvs gs := by
  obtain ⟨u, e1, e0, o', kv2, e2, r⟩ := m1.ob p _ st
  subst e0
  cases e2
  exact ⟨e1, r⟩
theorem items_it {p : Addr} {o : Obj} {kvs : List (Key × V)} {gs : List (Key × T)} : ItRep K S H (Iti p o kvs) (itemsT gs) (fun h2 => h2 p = some (.dL (.frz o (.dK kvs)) gs)) := fun S1 H1 h1 f1 m1 st => by
  obtain ⟨e1, r⟩ := lock_at m1 st
  refine ⟨fun i t e => ?_, ⟨e1, by unfold itemsT; rw [List.length_map, r.length]; exact Nat.le_refl _⟩⟩
  unfold itemsT at e
  rw [List.getElem?_map] at e
  cases z : gs[i]? with
  | none => rw [z] at e; cases e
  | some q =>
    rw [z] at e
    cases e
    obtain ⟨k, t⟩ := q
    obtain ⟨v, ev, rv⟩ := r.get z
    refine ⟨⟨e1, (List.getElem?_eq_some_iff.mp ev).1⟩, fun x H2 y => ?_⟩
    obtain ⟨Tt, k', v', ek, rfl, nT, rfl⟩ := y
    rw [ev] at ek
    cases ek
    obtain ⟨m2, f2⟩ := m1.frozen (u := .tup [kV k, v]) nT
    exact ⟨_, f2, m2, .tup (.inr rfl) upd_same (.cons (kT_rep k) (.cons (rv.fut f2) .nil))⟩
theorem keys_it {p : Addr} {o : Obj} {kvs : List (Key × V)} {gs : List (Key × T)} : ItRep K S H (Itk p o kvs) (keysT gs) (fun h2 => h2 p = some (.dL (.frz o (.dK kvs)) gs)) := fun S1 H1 h1 f1 m1 st => by
  obtain ⟨e1, r⟩ := lock_at m1 st
  refine ⟨fun i t e => ?_, ⟨e1, by unfold keysT; rw [List.length_map, r.length]; exact Nat.le_refl _⟩⟩
  unfold keysT at e
  rw [List.getElem?_map] at e
  cases z : gs[i]? with
  | none => rw [z] at e; cases e
  | some q =>
    rw [z] at e
    cases e
    obtain ⟨k, t⟩ := q
    obtain ⟨v, ev, rv⟩ := r.get z
    refine ⟨⟨e1, (List.getElem?_eq_some_iff.mp ev).1⟩, fun x H2 y => ?_⟩
    obtain ⟨rfl, k', v', ek, rfl⟩ := y
    rw [ev] at ek
    cases ek
    exact ⟨S1, Fut.refl, m1, kT_rep k⟩
theorem vals_it {p : Addr} {o : Obj} {kvs : List (Key × V)} {gs : List (Key × T)} : ItRep K S H (Itd p o kvs) (valsT gs) (fun h2 => h2 p = some (.dL (.frz o (.dK kvs)) gs)) := fun S1 H1 h1 f1 m1 st => by
  obtain ⟨e1, r⟩ := lock_at m1 st
  refine ⟨fun i t e => ?_, ⟨e1, by unfold valsT; rw [List.length_map, r.length]; exact Nat.le_refl _⟩⟩
  unfold valsT at e
  rw [List.getElem?_map] at e
  cases z : gs[i]? with
  | none => rw [z] at e; cases e
  | some q =>
    rw [z] at e
    cases e
    obtain ⟨k, t⟩ := q
    obtain ⟨v, ev, rv⟩ := r.get z
    refine ⟨⟨e1, (List.getElem?_eq_some_iff.mp ev).1⟩, fun x H2 y => ?_⟩
    obtain ⟨rfl, k', ek⟩ := y
    rw [ev] at ek
    cases ek
    exact ⟨S1, Fut.refl, m1, rv⟩
theorem ji_items {elts : List Expr} {kk : Nat} {tpos : Pos} {e : Expr} {a : EM} {apos cpos : Pos} (ha : JE X W e a) (hbase : attributeBase e "items" X.env (eval e X.env) = eval e X.env := by rfl) (hline : (apos.endLine == cpos.line) = true := by rfl) : JI X W (.Tuple elts kk tpos) (.Call (.Attribute e "items" apos) [] [] cpos) (iDict itemsT a) := PI.wk (pi_items ha hbase hline) fun σ H R ⟨S, h, s, Q, E, m, rs, lk, hm, pk⟩ =>
  ⟨S, h, s, _, E, m, rs, lk, hm, fun S1 H1 h1 v x f1 m1 r1 q1 => by
    split at q1
    · split at q1
      · rename_i p _ u gs e
        cases r1
        obtain ⟨w, e1, e0, o, kvs, e2, r⟩ := m1.ob p _ e
        subst e0
        subst e2
        exact ⟨p, o, kvs, rfl, e1, pk S1 H1 h1 _ _ _ f1 m1 items_it q1⟩
      · exact q1.elim
    · exact q1.elim⟩
theorem ji_values {tg e : Expr} {a : EM} {apos cpos : Pos} (ha : JE X W e a) (hbase : attributeBase e "values" X.env (eval e X.env) = eval e X.env := by rfl) (hline : (apos.endLine == cpos.line) = true := by rfl) : JI X W tg (.Call (.Attribute e "values" apos) [] [] cpos) (iDict valsT a) := PI.wk (pi_values ha hbase hline) fun σ H R ⟨S, h, s, Q, E, m, rs, lk, hm, pk⟩ =>
  ⟨S, h, s, _, E, m, rs, lk, hm, fun S1 H1 h1 v x f1 m1 r1 q1 => by
    split at q1
    · split at q1
      · rename_i p _ u gs e
        cases r1
        obtain ⟨w, e1, e0, o, kvs, e2, r⟩ := m1.ob p _ e
        subst e0
        subst e2
        exact ⟨p, o, kvs, rfl, e1, pk S1 H1 h1 _ _ _ f1 m1 vals_it q1⟩
      · exact q1.elim
    · exact q1.elim⟩
theorem ji_keys {tg e : Expr} {a : EM} (ha : JE X W e a) : JI X W tg e (iDict keysT a) := PI.wk (pi_keys ha) fun σ H R ⟨S, h, s, Q, E, m, rs, lk, hm, pk⟩ =>
  ⟨S, h, s, _, E, m, rs, lk, hm, fun S1 H1 h1 v x f1 m1 r1 q1 => by
    split at q1
    · split at q1
      · rename_i p _ u gs e
        cases r1
        obtain ⟨w, e1, e0, o, kvs, e2, r⟩ := m1.ob p _ e
        subst e0
        subst e2
        exact ⟨p, o, rfl, .inl ⟨kvs, e1, pk S1 H1 h1 _ _ _ f1 m1 keys_it q1⟩⟩
      · exact q1.elim
    · exact q1.elim⟩
def oDict : RLT := fun xs h Q => match xs with
  | [.ref p] => match dOf (h p) with
    | some gs => ∀ q, h q = none → Q (.ref q) (put h q (.dK gs))
    | none => False
  | _ => False
theorem c_dict : CP K (fun xs H Q => ∃ (a : Addr) (kvs : List (Key × V)), xs = [.ref a] ∧ Rd H a (.dK kvs) ∧ ∀ p, H p = none → Q (.ref p) (upd H p (.dK kvs))) oDict := fun S H h vs xs Q Q' m r q pk => by
  unfold oDict at q
  split at q
  · rename_i p
    split at q
    · rename_i gs e
      cases r with
      | cons r1 rn =>
        cases rn; cases r1
        obtain ⟨kvs, e1, rd⟩ := dOf_rd m e
        exact ⟨p, kvs, rfl, e1, fun l nl => pk S _ _ _ _ (fut_upd (m.nS nl)) (m.new (o := .dK gs) nl ⟨kvs, rfl, rd⟩) (.ref l) (q l (m.free nl))⟩
    · exact q.elim
  · exact q.elim
def eDGet2 (a b c : EM) : EM := fun s h Q E => a s h (fun x h1 => match x with
  | .ref p => (dOf (h1 p)).isSome = true ∧ b s h1 (fun y h2 => c s h2 (fun z h3 => match dOf (h3 p) with
    | some gs => match keyT y with
      | some k => Q ((valT gs k).getD z) h3
      | none => False
    | none => False) E) E
  | _ => False) E
theorem j_dget2 {o e f : Expr} {a b c : EM} {apos cpos : Pos} (hu : X.A.units + 1 < cLine) (ho : JE X W o a) (he : JE X W e b) (hf : JE X W f c) (m : M2 X o "get" apos e f cpos) : JE X W (.Call (.Attribute o "get" apos) [e, f] [] cpos) (eDGet2 a b c) := PE.wk (pe_dget2 hu ho he hf m) fun σ H Q' ⟨S, h, s, Q, E, m, rs, lk, hm, pk⟩ =>
  ⟨S, h, s, _, E, m, rs, lk, hm, fun S1 H1 h1 v x f1 m1 r1 q1 => by
    split at q1
    · rename_i p
      obtain ⟨e1, q1⟩ := q1
      cases r1
      cases z : dOf (h1 p) with
      | none => rw [z] at e1; cases e1
      | some gs0 =>
        obtain ⟨kvs0, rd0, _⟩ := dOf_rd m1 z
        refine ⟨p, rfl, .inl ⟨kvs0, rd0⟩, S1, h1, s, _, E, m1, rs.fut f1, lk.fut f1, q1, fun S2 H2 h2 w y f2 m2 r2 q2 => ⟨S2, h2, s, _, E, m2, rs.fut (f1.trans f2), lk.fut (f1.trans f2), q2, fun S3 H3 h3 u z f3 m3 r3 q3 => ?_⟩⟩
        split at q3
        · split at q3
          · rename_i gs eg _ k ek
            rw [keyT_ok (r2.fut f3) ek]
            obtain ⟨kvs, rd, r⟩ := dOf_rd m3 eg
            refine ⟨valV kvs k, .inl ⟨kvs, k, rd, rfl, rfl⟩, ?_⟩
            obtain ⟨a1, a2⟩ := r.val (k := k)
            have fa := (f1.trans f2).trans f3
            cases ev : valT gs k with
            | none => rw [a2 ev]; rw [ev] at q3; exact pk S3 H3 h3 _ _ fa m3 r3 q3
            | some t => obtain ⟨v, e2, rv⟩ := a1 t ev; rw [e2]; rw [ev] at q3; exact pk S3 H3 h3 _ _ fa m3 rv q3
          · exact q3.elim
        · exact q3.elim
    · exact q1.elim⟩
def mPairs : List (EM × EM) → Sl → Hq → (List (T × T) → Hq → Prop) → EX → Prop
  | [], _, h, Q, _ => Q [] h
  | (a, b) :: r, s, h, Q, E => a s h (fun x h1 => b s h1 (fun y h2 => mPairs r s h2 (fun ps h3 => Q ((x, y) :: ps) h3) E) E) E
def keyTs : List (T × T) → Option (List (Key × T))
  | [] => some []
  | (x, y) :: r => match keyT x, keyTs r with
    | some k, some kvs => some ((k, y) :: kvs)
    | _, _ => none
def mergeD (gs more : List (Key × T)) : List (Key × T) := more.foldl (fun acc kv => putD acc kv.1 kv.2) gs
inductive RepP (K : PySem.W.Frag) (S : Fz) (H : Hp) : List (V × V) → List (T × T) → Prop
  | nil : RepP K S H [] []
  | cons {v w : V} {x y : T} {ps : List (V × V)} {xs : List (T × T)} : Rep K S H v x → Rep K S H w y → RepP K S H ps xs → RepP K S H ((v, w) :: ps) ((x, y) :: xs)
theorem lift_pairs {σ : L2.St} {s : Sl} {E : EX} : ∀ (ms : List (EM × EM)) {S : Fz} {H : Hp} {h : Hq} {Q : List (T × T) → Hq → Prop} {Q' : List (V × V) → Hp → Prop}, Sim K S H h → RepS K S H σ s → LkX K W S H E → mPairs ms s h Q E →
    (∀ S1 H1 h1 ps xs, Fut S H S1 H1 → Sim K S1 H1 h1 → RepP K S1 H1 ps xs → Q xs h1 → Q' ps H1) → tPairs (ms.map fun m => (liftE K W m.1, liftE K W m.2)) σ H Q'
  | [], S, H, h, Q, Q', m, rs, lk, hm, pk => pk S H h [] [] Fut.refl m .nil hm
  | (a, b) :: r, S, H, h, Q, Q', m, rs, lk, hm, pk => ⟨S, h, s, _, E, m, rs, lk, hm, fun S1 H1 h1 v x f1 m1 r1 q1 => ⟨S1, h1, s, _, E, m1, rs.fut f1, lk.fut f1, q1, fun S2 H2 h2 w y f2 m2 r2 q2 =>
      lift_pairs r m2 (rs.fut (f1.trans f2)) (lk.fut (f1.trans f2)) q2 fun S3 H3 h3 ps xs f3 m3 r3 q3 => pk S3 H3 h3 _ _ ((f1.trans f2).trans f3) m3 (.cons (r1.fut (f2.trans f3)) (r2.fut f3) r3) q3⟩⟩
theorem keyTs_ok : ∀ {ps : List (V × V)} {xs : List (T × T)} {gs : List (Key × T)}, RepP K S H ps xs → keyTs xs = some gs → ∃ kvs : List (Key × V), ps = kvs.map (fun kv => (kV kv.1, kv.2)) ∧ RepD K S H kvs gs
  | _, _, _, .nil, e => by cases e; exact ⟨[], rfl, .nil⟩
  | _, _, _, .cons (x := x) r1 r2 r3, e => by
    unfold keyTs at e
    split at e
    · rename_i k kvs e1 e2
      cases e
      obtain ⟨kv, ep, rd⟩ := keyTs_ok r3 e2
      subst ep
      rw [keyT_ok r1 e1]
      exact ⟨(k, _) :: kv, rfl, .cons r2 rd⟩
    · cases e
theorem RepD.merge : ∀ {ls : List (Key × V)} {ms : List (Key × T)} {kvs : List (Key × V)} {gs : List (Key × T)}, RepD K S H ls ms → RepD K S H kvs gs → RepD K S H (mergeK kvs ls) (mergeD gs ms) := by
  intro ls
  induction ls with
  | nil =>
    intro ms kvs gs r q
    rcases r.cases with ⟨_, rfl⟩ | ⟨_, _, _, _, _, z, _⟩
    · exact q
    · cases z
  | cons l ls ih =>
    intro ms kvs gs r q
    rcases r.cases with ⟨z, _⟩ | ⟨k, v, t, kvs', gs', z, rfl, r1, r2⟩
    · cases z
    · cases z
      show RepD K S H (mergeK (putK kvs k v) ls) (mergeD (putD gs k t) gs')
      exact ih r2 (q.put r1)
def eDisp (ms : List (EM × EM)) : EM := fun s h Q E => ∀ p, h p = none → mPairs ms s (put h p (.dK [])) (fun xs h2 => h2 p = some (.dK []) ∧ ∃ gs, keyTs xs = some gs ∧ gs.length ≤ 15 ∧ Q (.ref p) (put h2 p (.dK (mergeD [] gs)))) E
theorem j_disp {pos : Pos} {keys : List (Option Expr)} {values : List Expr} {ms : List (EM × EM)} (j : PPs X pos keys values (ms.map fun m => (liftE X.K W m.1, liftE X.K W m.2))) (hall : keys.all (·.isSome) = true := by rfl) (hl : keys.length = values.length := by rfl) (h0 : keys ≠ [] := by simp) (h15 : keys.length ≤ 15 := by decide) :
    JE X W (.Dict keys values pos) (eDisp ms) := PE.wk (pe_disp j hall hl h0 h15) fun σ H Q' ⟨S, h, s, Q, E, m, rs, lk, hm, pk⟩ p np => by
  have f0 : Fut S H S (upd H p (.dK [])) := fut_upd (m.nS np)
  have m0 : Sim X.K S (upd H p (.dK [])) (put h p (.dK [])) := m.new (o := .dK []) np ⟨[], rfl, .nil⟩
  refine lift_pairs ms m0 (rs.fut f0) (lk.fut f0) (hm p (m.free np)) fun S1 H1 h1 ps xs f1 m1 r1 ⟨e1, gs, e2, l2, q1⟩ => ?_
  obtain ⟨kvs0, e3, rd0⟩ := ref_dK m1 e1
  obtain ⟨kvs, ep, rd⟩ := keyTs_ok r1 e2
  have z0 : kvs0 = [] := by
    rcases rd0.cases with ⟨z, _⟩ | ⟨_, _, _, _, _, _, z, _⟩
    · exact z
    · cases z
  subst z0
  have f2 : Fut S1 H1 S1 (upd H1 p (.dK (mergeK [] kvs))) := fut_upd (m1.nS' e1)
  exact ⟨e3, kvs, ep, by rw [rd.length]; exact l2, pk S1 _ _ _ _ ((f0.trans f1).trans f2) (m1.write (o' := .dK (mergeD [] gs)) e1 ⟨_, rfl, rd.merge .nil⟩) (.ref p) q1⟩
theorem rg_rep (a b : Int) : RepL K S H (rgV a b) (rng a (b - a).toNat) := by
  unfold rgV rng
  generalize List.range (b - a).toNat = l
  induction l with
  | nil => exact .nil
  | cons x l ih => exact .cons (.int _) ih
def eLstR2 (fl : Bool) (a b : EM) : EM := fun s h Q E => a s h (fun x h1 => b s h1 (fun y h2 => match x, y with
  | .int i, .int j => (-1000000 ≤ i ∧ i ≤ 1000000 ∧ -1000000 ≤ j ∧ j ≤ 1000000) ∧ mk fl (rng i (j - i).toNat) h2 Q
  | _, _ => False) E) E
theorem j_lstR2 (fl : Bool) {e1 e2 : Expr} {a b : EM} {p p' pos pos' : Pos} (hc : X.calm = true) (hg : Gl X "list") (hm : X.mg "list" = none) (hgr : Gl X "range") (hmr : X.mg "range" = none) (ha : JE X W e1 a) (hb : JE X W e2 b) (na : starEach [e1, e2] X.env = (false, eval e1 X.env) :: starEach [e2] X.env := by rfl) (nb : starEach [e2] X.env = (false, eval e2 X.env) :: starEach [] X.env := by rfl) (hp : (backTo pos' (starEach [e2] X.env)).any (·.1) = false := by rfl) :
    JE X W (.Call (.Name "list" p) [.Call (.Name "range" p') [e1, e2] [] pos'] [] pos) (eLstR2 fl a b) := PE.wk (pe_listRg hc hg hm (prg_2 hgr hmr ha hb na nb hp)) fun σ H Q' ⟨S, h, s, Q, E, m, rs, lk, hm, pk⟩ =>
  ⟨S, h, s, _, E, m, rs, lk, hm, fun S1 H1 h1 v x f1 m1 r1 q1 => ⟨S1, h1, s, _, E, m1, rs.fut f1, lk.fut f1, q1, fun S2 H2 h2 w y f2 m2 r2 q2 => by
    split at q2
    · cases r1; cases r2
      rename_i i j
      obtain ⟨⟨a1, a2, a3, a4⟩, q2⟩ := q2
      refine ⟨i, j, rfl, rfl, ⟨by omega, by omega, by omega, by omega, by omega⟩, ?_⟩
      exact mk_ok m2 (rg_rep i j) q2 (pk.fut (f1.trans f2))
    · exact q2.elim⟩⟩
def oListD (fl : Bool) : RLT := fun xs h Q => match xs with
  | [.ref p] => match dOf (h p) with
    | some gs => mk fl (keysT gs) h Q
    | none => False
  | _ => False
theorem keys_rep : ∀ {kvs : List (Key × V)} {gs : List (Key × T)}, RepD K S H kvs gs → RepL K S H (kvs.map fun kv => kV kv.1) (keysT gs) := by
  intro kvs
  induction kvs with
  | nil =>
    intro gs r
    rcases r.cases with ⟨_, rfl⟩ | ⟨_, _, _, _, _, z, _⟩
    · exact .nil
    · cases z
  | cons kv kvs ih =>
    intro gs r
    rcases r.cases with ⟨z, _⟩ | ⟨k, v, t, kvs', gs', z, rfl, r1, r2⟩
    · cases z
    · cases z
      exact .cons (kT_rep k) (ih r2)
theorem c_listD (fl : Bool) : CP K (fun xs H Q => ∃ (a : Addr) (kvs : List (Key × V)), xs = [.ref a] ∧ Rd H a (.dK kvs) ∧ ∀ p, H p = none → Q (.ref p) (upd H p (.lst (kvs.map fun kv => kV kv.1)))) (oListD fl) := fun S H h vs xs Q Q' m r q pk => by
  unfold oListD at q
  split at q
  · rename_i p
    split at q
    · rename_i gs e
      cases r with
      | cons r1 rn =>
        cases rn; cases r1
        obtain ⟨kvs, e1, rd⟩ := dOf_rd m e
        exact ⟨p, kvs, rfl, e1, mk_ok m (keys_rep rd) q pk⟩
    · exact q.elim
  · exact q.elim
end
end TL

set_option maxHeartbeats 1000000
namespace TL
open PySem PySem.Spec PySem.Calls PyProof.Rows L2
abbrev keyE (x : Str) (p1 p2 p3 p4 p5 : Pos) (kk : Nat) : Expr := .Call (.Name "int" p1) [.Subscript (.Name x p2) (.Constant (.int 0) kk p3) p4] [] p5
section
variable {P : Program} {w : World} {A : Around} {s : Shared} {f c' t : Addr} {q x : Str} {params : Arguments} {scope : Scope} {cl : List (Str × Addr)} {pm ctv : Value} {p1 p2 p3 p4 p5 : Pos} {kk : Nat} {mg mb : Str → Option Value} {its : Array Value} {i : Int} {tk : Tok}
theorem key_turn (ho : s.heap.get? f = some (PySem.W.kla_obj "<lambda>" q params (keyE x p1 p2 p3 p4 p5 kk) scope cl pm c' ctv)) (hcd : s.heap.CodeRec (.ref c') q) (hroom : A.depth < recursionLimit)
    (hbind : bindArgs (PySem.W.kla_fn "<lambda>" q params (keyE x p1 p2 p3 p4 p5 kk) scope cl pm (.ref c') ctv) ⟨[.ref t], []⟩ = pure [(x, .ref t)])
    (hk : scope.kind = .function) (hco : scope.isCoroutine = false) (hgen : scope.isGenerator = false) (hx : scope.names.lookup x = some .local) (hi : scope.names.lookup ("int" : Str) = some .globalImplicit) (hcell : ∀ y ∈ scope.names, y.2 ≠ .cell)
    (hd : (x == ("__debug__" : Str)) = false) (hcdn : (x == ("__classdict__" : Str)) = false) (lim : s.heap.NoLimit) (hg : s.heap.Ns mainGlobals mg) (hm : mg "int" = none) (hb : s.heap.Ns builtinsNs mb) (hv : mb "int" = some (.type "int")) (ht : IsTup s.heap t its) (h0 : its[0]? = some (.int i tk)) :
    wpAny (model P w) A (call (.ref f) [.ref t]) (PySem.W.KeyPure (.int i) s) (fun _ _ => False) s := by
  refine wpAny_call (PySem.W.kla_callFunE hroom ho rfl hco hgen rfl hcd ?_)
  rw [hbind]
  refine wpAny_pure (wpAny_newFunctionEnv hcell (fun y hy => ?_) (fun h₁ hns hsb => ?_) hk)
  · have e : y = (x, .ref t) := by simpa using hy
    rw [e]
    exact hx
  have kp : ∀ b o, s.heap.get? b = some o → h₁.get? b = some o := fun b o e => hsb.extBut b o (Nat.ne_of_lt (Heap.lt_size e)) (Heap.get?_push_of_some _ e)
  refine ⟨lim.keeps kp, PySem.W.kla_codeExpr ?_⟩
  refine Call_ (Calls.Name_function_global hk hi (Calls.loadGlobal_builtin (hg.keeps kp) hm (hb.keeps kp) hv (callWith_type1 (args_cons ?_))))
  have hvx : ([(x, Value.ref t)] : List (Str × Value)).reverse.lookup x = some (.ref t) := by simp [List.lookup]
  refine L2.subD_of RT.get_tuple (fun _ _ => rfl) (wpAny_Name (wpAny_loadName_local hk hx hns hvx ?_) hd)
  have ht' : IsTup h₁ t its := ht.keeps kp
  have h1 : seqIndex? 0 its.size = some 0 := by
    have : 0 < its.size := (Array.getElem?_eq_some_iff.mp h0).1
    exact PySem.seqIndex_of (by decide) (by omega)
  refine wpAny_Constant_int ⟨ht'.typeIs, ?_⟩
  refine PyProof.Rows.getItem_tuple (s := { s with heap := h₁, toks := _ }) ht' (by decide) (by decide) h1 h0 (args_nil (call_int_int ?_))
  exact ⟨h₁, _, rfl, kp, .int _ _⟩
end
def Tab1 (H : Hp) (P : Addr) (q : Str) (H2 : Hp) : Prop := H2 = H ∨ ∃ (ps qs : Array Value) (c : Addr), H P = some (.tbl ps) ∧ H c = none ∧ H2 = upd (upd H P (.tbl qs)) c (LamX.CodeO c q) ∧ TriplesOk qs.toList ∧ ∀ (pos : Pos) (cv : Value), codeAmong pos qs.toList = some cv → codeAmong pos ps.toList = some cv ∨ cv = .ref c
def TabE (H : Hp) (P : Addr) (q : Str) : Prop := ∃ ps : Array Value, H P = some (.tbl ps) ∧ TriplesOk ps.toList ∧ ∀ (pos : Pos) (cv : Value), codeAmong pos ps.toList = some cv → ∃ c, cv = .ref c ∧ H c = some (LamX.CodeO c q)
section
variable {X : Cx} {pins : List (Addr × Obj)} {σ : L2.St} {H : Hp} {s : Shared} {c P : Addr} {params : Arguments} {body : Expr} {scope : Scope} {pos : Pos} {E : Value → Shared → Prop} {Q : Value → Shared → Prop}
theorem lam_mk (I : Inv X pins σ H s) (TB : LamX.TabB X.base X.mg c P) (hcode : X.env.code = .ref c) (hT : TabE H P (X.env.qual ++ "<lambda>")) (hdef : defaultsOf params X.env = ([], [])) (hfree : ∀ y ∈ scope.names, y.2 = .free → ∃ c, X.env.cells.lookup y.1 = some c)
    (h : ∀ (f c' : Addr) (pm ctv : Value) (H1 : Hp) (s' : Shared), Tab1 H P (X.env.qual ++ "<lambda>") H1 → Inv X pins σ H1 s' → s'.heap.get? f = some (PySem.W.kla_obj "<lambda>" (X.env.qual ++ "<lambda>") params body scope (cloFrom X.env.cells scope.names []) pm c' ctv) → H1 c' = some (LamX.CodeO c' (X.env.qual ++ "<lambda>")) → Q (.ref f) s') :
    wpAny (model X.prog X.w) X.A (eval (.Lambda params body scope pos) X.env) Q E s := by
  obtain ⟨ps, hP, ht, ha⟩ := hT
  have hP' : s.heap.get? P = some { cls := .none, data := .fields ps } := I.hok P _ hP
  apply PySem.W.kla_eval hdef
  cases hc : codeAmong pos ps.toList with
  | some cv =>
    obtain ⟨c', rfl, hco⟩ := ha pos cv hc
    apply PySem.W.kla_makeFunctionHit (mg := X.mg) (c := c) (P := P) (ps := ps) (closure_ok hfree) I.ok.glob (I.mod.glob.keeps I.bk) hcode (TB.code.keeps I.bk) hP' ht hc (TB.bm.keeps I.bk)
    intro ctv h' tk kp hsz
    exact h _ c' _ ctv H _ (.inl rfl) (I.kept (t' := tk) fun b o e => Heap.get?_push_of_some _ (kp b o e)) (Heap.get?_push_size _ rfl) hco
  | none =>
    apply PySem.W.kla_makeFunction (mg := X.mg) (c := c) (P := P) (ps := ps) (closure_ok hfree) I.ok.glob (I.mod.glob.keeps I.bk) hcode (TB.code.keeps I.bk) hP' ht hc TB.gP (TB.bm.keeps I.bk)
    intro c' ctv h' tk kp hge hlt hrec htb
    obtain ⟨c2, oc, vs, t, e2, hoc, hd, hv⟩ := hrec
    cases e2
    have nC : H c' = none := I.hok.fresh hge
    have at3 := LamX.inv_table (q := X.env.qual ++ "<lambda>") (t' := tk) (more := #[rawInt pos.line, rawInt pos.col, .ref c']) I hP (fun b o hb e => Heap.get?_push_of_some (PySem.W.kla_obj "<lambda>" (X.env.qual ++ "<lambda>") params body scope (cloFrom X.env.cells scope.names []) ((X.mg "__name__").getD .none) c' ctv) (kp b o hb e)) (Heap.get?_push_of_some _ htb) hge ⟨oc, vs, t, Heap.get?_push_of_some _ hoc, hd, hv⟩
    have eL : (ps ++ #[rawInt pos.line, rawInt pos.col, .ref c']).toList = ps.toList ++ [rawInt pos.line, rawInt pos.col, .ref c'] := by simp
    refine h _ c' _ ctv _ _ (.inr ⟨ps, ps ++ #[rawInt pos.line, rawInt pos.col, .ref c'], c', hP, nC, rfl, ?_, fun p' cv hcv => ?_⟩) at3 (Heap.get?_push_size _ rfl) upd_same
    · rw [eL]; exact PySem.TriplesOk_snoc _ _ _ _ ht
    · rw [eL] at hcv
      exact LamX.among_app _ ht hcv
end
def tSortK (K : PySem.W.Frag) (P : Addr) (q : Str) (te : TE) : TE := fun σ H Q => te σ H fun v H1 => ∃ (l : Addr) (bs : List (Addr × Int)), v = .ref l ∧ SqL K H1 l (bs.map fun b => V.ref b.1) ∧ bs.length ≤ sizeLine ∧ (∀ b ∈ bs, ∃ xs, SqT K H1 b.1 (.int b.2 :: xs)) ∧ TabE H1 P q ∧
  ∀ H2, Tab1 H1 P q H2 → ∀ p, H2 p = none → Q (.ref p) (upd H2 p (.lst ((bs.mergeSort fun a b => decide (a.2 ≤ b.2)).map fun b => V.ref b.1)))
theorem each_of : ∀ {bs : List (Addr × Int)} {us : List Value}, Vals (bs.map fun b => V.ref b.1) us → PySem.W.EachIs (fun (v : Value) (b : Addr × Int) => v = .ref b.1) us bs
  | [], _, r => by rw [List.map_nil] at r; cases r; exact .nil
  | b :: bs, _, r => by
    rw [List.map_cons] at r
    cases r with
    | cons r1 r2 => exact .cons r1 (each_of r2)
theorem of_each : ∀ {bs : List (Addr × Int)} {us : List Value}, PySem.W.EachIs (fun (v : Value) (b : Addr × Int) => v = .ref b.1) us bs → Vals (bs.map fun b => V.ref b.1) us
  | _, _, .nil => .nil
  | _, _, .cons r1 r2 => .cons r1 (of_each r2)
section
variable {X : Cx} {W : WX} {c P : Addr} {params : Arguments} {scope : Scope} {e : Expr} {te : TE} {x : Str} {p pos lpos kpos p1 p2 p3 p4 p5 : Pos} {kk : Nat}
theorem pe_sortK (TB : LamX.TabB X.base X.mg c P) (hcode : X.env.code = .ref c) (hr : Room 3 X.A) (hg : Gl X "sorted") (hm : X.mg "sorted" = none) (hmi : X.mg "int" = none) (hdef : defaultsOf params X.env = ([], [])) (hfree : ∀ y ∈ scope.names, y.2 ≠ .free) (hcell : ∀ y ∈ scope.names, y.2 ≠ .cell)
    (hbind : ∀ (q : Str) (cl : List (Str × Addr)) (pm cdv ct v : Value), bindArgs (PySem.W.kla_fn "<lambda>" q params (keyE x p1 p2 p3 p4 p5 kk) scope cl pm cdv ct) ⟨[v], []⟩ = pure [(x, v)])
    (hk : scope.kind = .function) (hco : scope.isCoroutine = false) (hgen : scope.isGenerator = false) (hx : scope.names.lookup x = some .local) (hi : scope.names.lookup ("int" : Str) = some .globalImplicit) (hd : (x == ("__debug__" : Str)) = false) (hcdn : (x == ("__classdict__" : Str)) = false)
    (he : PE X e te) (hs : backTo pos (starEach [e] X.env) = (false, eval e X.env) :: backTo pos (starEach [] X.env) := by rfl) :
    PE X (.Call (.Name "sorted" p) [e] [⟨some "key", .Lambda params (keyE x p1 p2 p3 p4 p5 kk) scope lpos, kpos⟩] pos) (tSortK X.K P (X.env.qual ++ "<lambda>") te) := by
  refine ⟨fun pins s σ H Q I h => ?_⟩
  refine wpAny_Call_Name_kw (ld_blt (u := .builtin "sorted") I hg hm (by decide +kernel) ?_)
  refine PyProof.Rows.callWith_kw ?_ hs (by rw [hs]; rfl)
  rw [hs]
  refine spliced_cons (thn (he.run pins s σ H _ I h) fun u s1 ⟨v, H1, I1, rv, l, bs, ev, hl, hz, htup, hT, q⟩ => spliced_nil ?_)
  subst ev
  obtain rfl : u = Value.ref l := rv
  show wpAny _ _ (evalAll ((do let v ← eval (.Lambda params (keyE x p1 p2 p3 p4 p5 kk) scope lpos) X.env; standAt pos; pure v) :: [])) _ _ s1
  refine wpAny_evalAll_cons (wpAny_bind (lam_mk I1 TB hcode hT hdef (fun y hy e => absurd e (hfree y hy)) fun f c' pm ctv H2 s2 t1 I2 hf hc2 => wpAny_bind (wpAny_standAt (wpAny_pure (wpAny_evalAll_nil ?_)))))
  show wpAny _ _ (call (.builtin "sorted") [.ref l] [(Str.ofString "key", .ref f)]) _ _ s2
  have keepL : SqL X.K H2 l (bs.map fun b => V.ref b.1) := by
    rcases t1 with rfl | ⟨ps, qs, c2, e1, e2, rfl, _⟩
    · exact hl
    · rcases hl with hl | hl
      · have n1 : l ≠ c2 := fun z => by rcases hl with z2 | ⟨o, z2⟩ <;> (rw [z, e2] at z2; cases z2)
        have n2 : l ≠ P := fun z => by rcases hl with z2 | ⟨o, z2⟩ <;> (rw [z, e1] at z2; cases z2)
        refine .inl ?_
        unfold Rd at hl ⊢
        rw [upd_ne n1, upd_ne n2]
        exact hl
      · exact .inr hl
  have keepT : ∀ b ∈ bs, ∃ xs, SqT X.K H2 b.1 (.int b.2 :: xs) := fun b hb => by
    obtain ⟨xs, hx⟩ := htup b hb
    refine ⟨xs, ?_⟩
    rcases t1 with rfl | ⟨ps, qs, c2, e1, e2, rfl, _⟩
    · exact hx
    · rcases hx with hx | hx
      · have n1 : b.1 ≠ c2 := fun z => by rcases hx with z2 | ⟨o, z2⟩ <;> (rw [z, e2] at z2; cases z2)
        have n2 : b.1 ≠ P := fun z => by rcases hx with z2 | ⟨o, z2⟩ <;> (rw [z, e1] at z2; cases z2)
        refine .inl ?_
        unfold Rd at hx ⊢
        rw [upd_ne n1, upd_ne n2]
        exact hx
      · exact .inr hx
  obtain ⟨its, rv, pl, hz2⟩ := I2.list keepL
  obtain ⟨mb, hb1, hb2⟩ := I2.mod.blt
  have hrd := hr.depth
  have hru := hr.units
  refine PySem.W.sorted_key_data (b := false) (R := fun (v : Value) (b : Addr × Int) => v = .ref b.1) (fun b : Addr × Int => .int b.2) pl.isList (each_of rv) (PySem.W.AllAlike.of fun _ _ => rfl) (PySem.W.Sortable.others fun b => ⟨(fun z => by cases z), (fun _ z => by cases z)⟩) hz (fun b _ => ?_) (ksk_s1 _ _) (fun _ => ksk_l1 _ _) (fun _ => ksk_t1 _ _) (fun v b ev hb h' tk kp => ?_) (fun out c3 h' tk kp hn hD hlen eo => ?_)
  · show X.A.units + 2 + 0 < cLine
    omega
  · subst ev
    obtain ⟨xs, ht⟩ := keepT b hb
    obtain ⟨tis, rt, tl, _⟩ := I2.tuple ht
    obtain ⟨u0, eu, ru⟩ := rt.get (i := 0) (x := .int b.2) rfl
    obtain ⟨tk0, rfl⟩ := ru
    have cd : s2.heap.CodeRec (.ref c') (X.env.qual ++ "<lambda>") := by
      obtain ⟨⟨oc, vs, t, a1, a2, a3⟩, _⟩ := I2.hok c' _ hc2
      exact ⟨c', oc, vs, t, rfl, a1, a2, a3⟩
    have lm : h'.NoLimit := (I2.mod.nolimit.keeps I2.bk).keeps kp
    refine key_turn (s := { s2 with heap := h', toks := tk }) (mg := X.mg) (mb := mb) (kp _ _ hf) ?_ hr.in1.in1.depth (hbind _ _ _ _ _ _) hk hco hgen hx hi hcell hd hcdn lm ((I2.mod.glob.keeps I2.bk).keeps kp) hmi ((hb1.keeps I2.bk).keeps kp) ((hb2 "int" (by decide)).trans (by decide +kernel)) (tl.keeps kp) (by simpa using eu)
    obtain ⟨c0, oc, vs, t, e0, a1, a2, a3⟩ := cd
    exact ⟨c0, oc, vs, t, e0, kp _ _ a1, a2, a3⟩
  · rw [PySem.W.dataLe_int] at eo
    have ol := of_each eo
    have nw : ObjOk X.prog X.w (upd H2 (s2.heap.objs.size + 1) (.lst ((bs.mergeSort fun a b => decide (a.2 ≤ b.2)).map fun b => V.ref b.1))) h' (s2.heap.objs.size + 1) (.lst ((bs.mergeSort fun a b => decide (a.2 ≤ b.2)).map fun b => V.ref b.1)) :=
      ⟨by rw [List.length_map, List.length_mergeSort]; exact hz, out, c3, ol, hD⟩
    exact ⟨.ref (s2.heap.objs.size + 1), _, I2.laid (t' := tk) kp (Nat.le_succ _) nw, rfl, q H2 t1 _ (I2.hok.fresh (Nat.le_succ _))⟩
end
def keyOf : T → Int
  | .tup (.int i :: _) => i
  | _ => 0
def isRunT : T → Bool
  | .tup (.int _ :: _) => true
  | _ => false
def srtT (ts : List T) : List T := ts.mergeSort fun a b => decide (keyOf a ≤ keyOf b)
def eSrt (fl : Bool) (P : Addr) (q : Str) (m : EM) : EM := fun s h Q E => m s h (fun x h1 => h1 P = some (.tab q) ∧ match lsOf h1 x with
  | some ts => ts.all isRunT = true ∧ ts.length ≤ lim ∧ mk fl (srtT ts) h1 Q
  | none => False) E
section
variable {K : PySem.W.Frag} {S : Fz} {H : Hp} {h : Hq}
theorem runs_of : ∀ {vs : List V} {ts : List T}, RepL K S H vs ts → ts.all isRunT = true → ∃ zs : List (Addr × T), vs = zs.map (fun z => V.ref z.1) ∧ ts = zs.map (·.2) ∧ ∀ z ∈ zs, Rep K S H (.ref z.1) z.2 ∧ ∃ xs, SqT K H z.1 (.int (keyOf z.2) :: xs)
  | _, _, .nil, _ => ⟨[], rfl, rfl, fun _ z => absurd z List.not_mem_nil⟩
  | _, _, .cons (t := t) r q, e => by
    rw [List.all_cons, Bool.and_eq_true] at e
    obtain ⟨zs, e1, e2, e3⟩ := runs_of q e.2
    have one : ∀ {v : V} {t : T}, Rep K S H v t → isRunT t = true → ∃ a, v = .ref a ∧ ∃ xs, SqT K H a (.int (keyOf t) :: xs) := fun {v t} r e => by
      cases r with
      | tup s hh rl =>
        cases rl with
        | nil => cases e
        | cons r1 rl => cases r1 <;> first | (cases e; done) | exact ⟨_, rfl, _, SqT.of hh⟩
      | tupK hh rl =>
        cases rl with
        | nil => cases e
        | cons r1 rl => cases r1 <;> first | (cases e; done) | exact ⟨_, rfl, _, .inr hh⟩
      | _ => cases e
    obtain ⟨a, rfl, xs, hx⟩ := one r e.1
    refine ⟨(a, t) :: zs, by rw [e1]; rfl, by rw [e2]; rfl, fun z hz => ?_⟩
    rcases List.mem_cons.mp hz with rfl | hz
    · exact ⟨r, xs, hx⟩
    · exact e3 z hz
theorem repL_zs : ∀ {zs : List (Addr × T)}, (∀ z ∈ zs, Rep K S H (.ref z.1) z.2) → RepL K S H (zs.map fun z => V.ref z.1) (zs.map (·.2))
  | [], _ => .nil
  | z :: zs, h => .cons (h z List.mem_cons_self) (repL_zs fun y hy => h y (List.mem_cons_of_mem _ hy))
theorem upd_comm {H : Hp} {a b : Addr} {x y : HO} (n : a ≠ b) : upd (upd H a x) b y = upd (upd H b y) a x := by
  funext c
  unfold upd
  by_cases c1 : c = a
  · subst c1; rw [if_neg n, if_pos rfl, if_pos rfl]
  · rw [if_neg c1]; split <;> rfl
theorem tab_sim (m : Sim K S H h) {P : Addr} {q : Str} (e : h P = some (.tab q)) {H2 : Hp} (t : Tab1 H P q H2) : ∃ S2, Fut S H S2 H2 ∧ Sim K S2 H2 h := by
  rcases t with rfl | ⟨ps, qs, c, hP, nc, rfl, ht, hcod⟩
  · exact ⟨S, Fut.refl, m⟩
  · obtain ⟨u, e1, ps', e2, _, hold⟩ := m.ob P _ e
    subst e2
    rw [hP] at e1
    cases e1
    have nPc : P ≠ c := fun z => by rw [z, nc] at hP; cases hP
    obtain ⟨m1, f1⟩ := m.frozen (u := LamX.CodeO c q) nc
    have m2 := m1.write (u := .tbl qs) (o' := .tab q) e ⟨qs, rfl, ht, fun pos cv hc => by
      rcases hcod pos cv hc with z | z
      · obtain ⟨c0, z1, z2, z3⟩ := hold pos cv z
        exact ⟨c0, z1, f1.sub _ z2, (f1.kp c0 (.inl z2)).trans z3⟩
      · exact ⟨c, z, .inr rfl, upd_same⟩⟩
    rw [put_id e] at m2
    rw [upd_comm nPc]
    exact ⟨_, f1.trans (fut_upd (m1.nS' e)), m2⟩
theorem tabE_of (m : Sim K S H h) {P : Addr} {q : Str} (e : h P = some (.tab q)) : TabE H P q := by
  obtain ⟨u, e1, ps, e2, ht, hold⟩ := m.ob P _ e
  subst e2
  exact ⟨ps, e1, ht, fun pos cv hc => let ⟨c, z1, _, z3⟩ := hold pos cv hc; ⟨c, z1, z3⟩⟩
theorem lift_srt {W : WX} {fl : Bool} {P : Addr} {q : Str} {m : EM} : ∀ σ H Q, liftE K W (eSrt fl P q m) σ H Q → tSortK K P q (liftE K W m) σ H Q := fun σ H Q' ⟨S, h, s, Q, E, mm, rs, lk, hm, pk⟩ =>
  ⟨S, h, s, _, E, mm, rs, lk, hm, fun S1 H1 h1 v x f1 m1 r1 q1 => by
    obtain ⟨eP, q1⟩ := q1
    split at q1
    · rename_i ts e
      obtain ⟨hall, hlen, q1⟩ := q1
      obtain ⟨l, vs, rfl, hl, rl⟩ := lsOf_ok m1 r1 e
      obtain ⟨zs, e1, e2, e3⟩ := runs_of rl hall
      have s1 := List.map_mergeSort (r := fun a b : Addr × T => decide (keyOf a.2 ≤ keyOf b.2)) (s := fun a b : Addr × Int => decide (a.2 ≤ b.2)) (f := fun z : Addr × T => (z.1, keyOf z.2)) (l := zs) (fun a _ b _ => rfl)
      have s2 := List.map_mergeSort (r := fun a b : Addr × T => decide (keyOf a.2 ≤ keyOf b.2)) (s := fun a b : T => decide (keyOf a ≤ keyOf b)) (f := fun z : Addr × T => z.2) (l := zs) (fun a _ b _ => rfl)
      refine ⟨l, zs.map (fun z => (z.1, keyOf z.2)), rfl, ?_, ?_, fun b hb => ?_, tabE_of m1 eP, fun H2 t1 => ?_⟩
      · rw [List.map_map, show ((fun b : Addr × Int => V.ref b.1) ∘ fun z : Addr × T => (z.1, keyOf z.2)) = fun z => V.ref z.1 from rfl, ← e1]
        exact SqL.of hl
      · have : zs.length = ts.length := by rw [e2, List.length_map]
        rw [List.length_map, this]
        exact lim_le hlen
      · obtain ⟨z, hz, rfl⟩ := List.mem_map.mp hb
        exact (e3 z hz).2
      · obtain ⟨S2, f2, m2⟩ := tab_sim m1 eP t1
        rw [← s1, List.map_map, show ((fun b : Addr × Int => V.ref b.1) ∘ fun z : Addr × T => (z.1, keyOf z.2)) = fun z => V.ref z.1 from rfl]
        have es : srtT ts = (zs.mergeSort fun a b => decide (keyOf a.2 ≤ keyOf b.2)).map (·.2) := by
          unfold srtT
          rw [e2, s2]
        rw [es] at q1
        exact mk_ok m2 (repL_zs fun z hz => ((e3 z (List.mem_mergeSort.mp hz)).1).fut f2) q1 (pk.fut (f1.trans f2))
    · exact q1.elim⟩
end
section
variable {X : Cx} {W : WX} {c P : Addr} {params : Arguments} {scope : Scope} {e : Expr} {m : EM} {x : Str} {p pos lpos kpos p1 p2 p3 p4 p5 : Pos} {kk : Nat}
theorem j_srt (fl : Bool) (q : Str) (hq : q = X.env.qual ++ "<lambda>") (TB : LamX.TabB X.base X.mg c P) (hcode : X.env.code = .ref c) (hr : Room 3 X.A) (hg : Gl X "sorted") (hm : X.mg "sorted" = none) (hmi : X.mg "int" = none) (he : JE X W e m) (hdef : defaultsOf params X.env = ([], []) := by rfl)
    (hfree : ∀ y ∈ scope.names, y.2 ≠ .free := by decide) (hcell : ∀ y ∈ scope.names, y.2 ≠ .cell := by decide)
    (hbind : ∀ (q : Str) (cl : List (Str × Addr)) (pm cdv ct v : Value), bindArgs (PySem.W.kla_fn "<lambda>" q params (keyE x p1 p2 p3 p4 p5 kk) scope cl pm cdv ct) ⟨[v], []⟩ = pure [(x, v)] := by intros; rfl)
    (hk : scope.kind = .function := by rfl) (hco : scope.isCoroutine = false := by rfl) (hgen : scope.isGenerator = false := by rfl) (hx : scope.names.lookup x = some .local := by rfl) (hi : scope.names.lookup ("int" : Str) = some .globalImplicit := by rfl) (hd : (x == ("__debug__" : Str)) = false := by decide) (hcdn : (x == ("__classdict__" : Str)) = false := by decide)
    (hs : backTo pos (starEach [e] X.env) = (false, eval e X.env) :: backTo pos (starEach [] X.env) := by rfl) :
    JE X W (.Call (.Name "sorted" p) [e] [⟨some "key", .Lambda params (keyE x p1 p2 p3 p4 p5 kk) scope lpos, kpos⟩] pos) (eSrt fl P q m) := by
  subst hq
  exact PE.wk (pe_sortK TB hcode hr hg hm hmi hdef hfree hcell hbind hk hco hgen hx hi hd hcdn he hs) lift_srt
end
structure FunC (K : PySem.W.Frag) (x qual : Str) (st : Stmt) (f : Addr) (fd : FuncData) (c : Addr) : Prop where
  ex : ∃ (oc : Value) (od : Option Addr) (kV doc pm : Value) (an : Option Addr) (ct : Value) (osl : Array (Option Value)),
    fd = PySem.W.fnOf x qual (defArgs st) (defBody st) (defScope st) .none kV doc pm an (.ref c) ct ∧ K.lookup f = some ⟨oc, od, .func fd, osl⟩ ∧ PySem.W.codeIn K (.ref c) qual = true
theorem fn_okC {K : PySem.W.Frag} {P : Program} {w : World} {mg : Str → Option Value} {base : Heap} {x qual : Str} {st : Stmt} {f c' : Addr} {fd : FuncData} {N ps : List Str} {k : Nat} {c : Con} {B : SM} (F : FunC K x qual st f fd c') (sc : FnScope N ps (defScope st)) (hl : ps.length ≤ N.length)
    (J : ∀ (A : Around) (outer : List Env) (s : Shared) (H : Hp) (E : XK), Room k (A.deeper (PyProof.Rows.envOfC qual (defScope st) s.heap.objs.size f (.ref c'))) →
      JSs (cxOf (L2.CX P w) P w K mg base N qual (defScope st) f (.ref c') A outer s H E) (fun cls d _ H => E cls d H) (defBody st) B)
    (pl : ∀ ts h Q E, ts.length = ps.length → c ts h Q E → B (ends Q E) (startT N.length ts) h) : FnOk P w K mg base (L2.CX P w) (k + 1) f fd ps (liftSp K ps.length c) := by
  obtain ⟨oc, od, kV, doc, pm, an, ct, osl, rfl, lk, hcd⟩ := F.ex
  refine L2.fn_of lk hcd sc (fun vs H Q E ⟨S, h, ts, Q', E', m, r, l, _⟩ => r.length.trans l) fun A outer s H vs Q E hr ⟨S, h, ts, Q', E', m, r, l, q, pk, px⟩ => ⟨_, J A outer s H E hr, ?_⟩
  refine ⟨S, h, startT N.length ts, ends Q' E', m, RepS.start (N := N) r (by rw [r.length, l]; exact hl), ?_, pl ts h Q' E' l q⟩
  exact { nx := fun S1 H1 h1 σ1 s1 f1 m1 r1 ⟨h2, z, q1⟩ => pk S1 H1 h2 _ _ f1 (m1.sub z) .non q1, rt := fun S1 H1 h1 v u f1 m1 r1 ⟨h2, z, q1⟩ => pk S1 H1 h2 _ _ f1 (m1.sub z) r1 q1, bk := fun _ _ _ _ _ _ _ _ z => z.elim, ct := fun _ _ _ _ _ _ _ _ z => z.elim,
          ex := fun S1 H1 h1 σ1 s1 x cls d f1 m1 r1 rx ⟨h2, z, q1⟩ => px S1 H1 h2 x cls d f1 (m1.sub z) rx q1 }
def tabH (ts : List (Addr × Str)) : Hq := fun b => match ts.find? fun p => decide (p.1 = b) with
  | some p => some (.tab p.2)
  | none => none
theorem law_startT {K : PySem.W.Frag} {c : Con} {H : Hp} {a : Addr} {ns : List Int} (ts : List (Addr × Str)) (hT : ∀ p ∈ ts, H p.1 = some (.tbl #[])) (hS : SqL K H a (ns.map V.int)) (hc : c [.scr ns] (tabH ts) (fun u _ => u = .bl true) fun _ _ => False) : liftSp K 1 c [.ref a] H (fun v _ => v = .bl true) fun _ _ _ => False := by
  have ob : ∀ (S : Fz) b o, tabH ts b = some o → ∃ u, H b = some u ∧ RepO K S H u o := fun S b o e => by
    unfold tabH at e
    split at e
    · rename_i p hp
      cases e
      have h1 := List.find?_some hp
      have h2 := hT p (List.mem_of_find?_eq_some hp)
      have h3 : p.1 = b := by simpa using h1
      rw [h3] at h2
      refine ⟨_, h2, #[], rfl, trivial, fun pos cv hcv => ?_⟩
      have z : codeAmong pos [] = some cv := hcv
      simp [codeAmong] at z
    · cases e
  rcases hS with hS | hS
  · have ha : H a ≠ none := by rcases hS with z | ⟨o, z⟩ <;> (rw [z]; exact fun y => nomatch y)
    have na : tabH ts a = none := by
      cases e : tabH ts a with
      | none => rfl
      | some o =>
        unfold tabH at e
        split at e
        · rename_i p hp
          have h1 := List.find?_some hp
          have h2 := hT p (List.mem_of_find?_eq_some hp)
          have h3 : p.1 = a := by simpa using h1
          rw [h3] at h2
          rcases hS with z | ⟨o, z⟩ <;> (rw [h2] at z; cases z)
        · cases e
    exact ⟨⟨fun b => b = a, fun _ => False⟩, tabH ts, [.scr ns], _, _, ⟨fun b s => s.elim (fun z => by rw [z]; exact na) False.elim, fun b s => s.elim (fun z => by rw [z]; exact ha) False.elim, fun _ _ z => z, ob _⟩, .cons (.scr rfl hS) .nil, rfl, hc, fun S1 H1 h1 v u f1 m1 r1 e => by
      subst e; cases r1; rfl, fun _ _ _ _ _ _ _ _ _ z => z.elim⟩
  · exact ⟨⟨fun b => False, fun _ => False⟩, tabH ts, [.scr ns], _, _, ⟨fun b s => s.elim False.elim False.elim, fun b s => s.elim False.elim False.elim, fun _ z => z.elim, ob _⟩, .cons (.scrK hS) .nil, rfl, hc, fun S1 H1 h1 v u f1 m1 r1 e => by
      subst e; cases r1; rfl, fun _ _ _ _ _ _ _ _ _ z => z.elim⟩
theorem walk_tab {l : PySem.W.OpenLaw} {n k : Nat} {q : Program} {loose : List Str} {XP : (Str → Option Value) → Heap → Prop} {YP : World → Heap → Prop} {d : DefRec} {K : Params → PySem.W.Frag} {x : Str}
    (hn : l.most = some n) (hn2 : n ≤ sizeLine) (hdf : d.params.defaults = []) (hr : Room k callerA) (hY : ∀ (w : World) (h : Heap), YP w h → (K w.params).In h)
    (F : ∀ (w : World) (mg : Str → Option Value) (fa : Addr) (h : Heap), (K w.params).In h → h.Ns mainGlobals mg → mg d.name = some (.ref fa) →
      ∃ (fd : FuncData) (cs : List (Str × Addr × Addr × Str)) (sp : Sp), (∀ p ∈ cs, ((recsOf q).find? fun e => e.name == p.1).isSome = true ∧ PySem.W.tabIn (K w.params) p.1 = some (p.2.1, p.2.2.1) ∧ (K w.params).lookup p.2.2.1 = none) ∧ (∀ (s : Shared) (u : Value), BindsTo s fd ⟨[u], []⟩ [(x, u)]) ∧
        (∀ (H : Hp) (a : Addr) (ns : List Int), ns.length ≤ n → (∀ p ∈ cs, H p.2.2.1 = some (.tbl #[])) → SqL (K w.params) H a (ns.map V.int) → sp [.ref a] H (fun v _ => v = .bl true) fun _ _ _ => False) ∧
        ∀ base : Heap, (K w.params).In base → base.Ns mainGlobals mg → (∀ p ∈ cs, LamX.TabB base mg p.2.1 p.2.2.1) → FnOk l.prog w (K w.params) mg base (L2.CX l.prog w) k fa fd [x] sp) :
    PySem.W.WalkO q loose XP YP l.row.toRowW d [] (fun f vs => PySem.call f vs) := by
  refine Att.attach_callB hn hdf ?_
  intro w s₀ s₁ mg mb fa o pm cd doc a vs ns G Y _ _ _ hmg hobj hints hlen _ hg
  have KX := hY w _ Y
  obtain ⟨fd, cs, sp, hcs, hb, hsp, hF⟩ := F w mg fa s₁.heap KX G.T.g hmg
  have two : ∀ p ∈ cs.map (fun z => (z.2.1, z.2.2.1)), ∃ z ∈ cs, p = (z.2.1, z.2.2.1) := fun p hp => by
    obtain ⟨z, hz, e⟩ := List.mem_map.mp hp
    exact ⟨z, hz, e.symm⟩
  have tab : ∀ z ∈ cs, PySem.W.CodeHd s₁.heap z.2.1 z.2.2.1 ∧ s₁.heap.get? z.2.2.1 = some { cls := .none, data := .fields #[] } := fun z hz => by
    obtain ⟨h1, h2, _⟩ := hcs z hz
    obtain ⟨dd, hd⟩ := Option.isSome_iff_exists.mp h1
    exact PySem.W.tab_of G.T KX hd h2
  refine LamX.law_callTs (CX := L2.CX l.prog w) (cs := cs.map fun z => (z.2.1, z.2.2.1)) (sp := sp) (k := k) KX G.T.g G.T.b G.T.builtins G.T.nolimit hg ?_ ?_ ?_ G.T.bmain hobj hints (Nat.le_trans hlen hn2) hr ?_ hb ?_ (fun H e s' => no_law)
  · intro p hp
    obtain ⟨z, hz, rfl⟩ := two p hp
    exact (tab z hz).2
  · intro p hp
    obtain ⟨z, hz, rfl⟩ := two p hp
    exact (hcs z hz).2.2
  · intro p hp
    obtain ⟨z, hz, rfl⟩ := two p hp
    exact (tab z hz).1
  · intro base h1 h2 h3
    exact hF base h1 h2 fun z hz => h3 _ (List.mem_map.mpr ⟨z, hz, rfl⟩)
  · intro H hH hS
    exact hsp H a ns hlen (fun z hz => hH _ (List.mem_map.mpr ⟨z, hz, rfl⟩)) hS
end TL

namespace TL
open PySem L2 PySem.W
section
variable {prog : Program} {w : World} {A : Around} {E : Value → Shared → Prop} {s : Shared} {K : Frag} {x t C f : Addr} {ox : Obj} {od : Option Obj} {op : Operator} {Q : Value → Shared → Prop}
def NoOp (nm : String) : Prop := typeLookup (.type "tuple") (PySem.dunder nm) = pure none ∧ typeLookup (.type "tuple") (dunderR nm) = pure none
theorem noop_and : NoOp "and" := ⟨by rw [typeLookup_type, builtinLookup_eq_fast]; kernel_rfl, by rw [typeLookup_type, builtinLookup_eq_fast]; kernel_rfl⟩
theorem noop_or : NoOp "or" := ⟨by rw [typeLookup_type, builtinLookup_eq_fast]; kernel_rfl, by rw [typeLookup_type, builtinLookup_eq_fast]; kernel_rfl⟩
theorem noop_sub : NoOp "sub" := ⟨by rw [typeLookup_type, builtinLookup_eq_fast]; kernel_rfl, by rw [typeLookup_type, builtinLookup_eq_fast]; kernel_rfl⟩
theorem fills_tup {nm : String} (n : NoOp nm) : fillsNumberSlot (.type "tuple") nm = pure false := by
  unfold fillsNumberSlot
  simp only [n.1, n.2]
  rfl
theorem bin_tup {nm sym : String} (hi : op.info = (sym, nm)) (n : NoOp nm) (X : K.In s.heap) (I : InstAt s.heap x ox C od) (ht : s.TypeIs (.ref t) "tuple") (hc : selfFirst K C = true) (hs : findIn K (.ref C) (PySem.dunder nm) = some (some (.ref f))) (hf : isFn K (.ref f) = true)
    (h : wpAny (model prog w) A (call (.ref f) [.ref x, .ref t]) (CmpBack Q) E s) : wpAny (model prog w) A (binaryOp op (.ref x) (.ref t)) Q E s := by
  obtain ⟨cd, rest, hcd, hm⟩ := ksp_first hc
  have one := ksp_try X I hs hf h
  have L1 : Looks (model prog w) s.heap (typeOf (.ref x)) (.ref C) := I.type
  have L3 : Looks (model prog w) s.heap (fillsNumberSlot (.ref C) nm) true := fills_K X hcd hm hs
  have hne : (Value.ref C == Value.type "tuple") = false := Bool.eq_false_iff.mpr fun q => by cases beq_iff_eq.mp q
  simp only [binaryOp, hi]
  refine wpAny_holding (wpAny_bind ?_)
  unfold binaryOp1
  refine wpAny_bind (L1.at (wpAny_bind (wpAny_typeOf ht (wpAny_bind (L3.at ?_)))))
  simp only [hne, fills_tup n]
  ksp_lk
  refine wpAny_mono one (fun r s' ⟨v, e, hq⟩ => ?_) fun _ _ e => e
  subst e
  ksp_lk
  exact hq
theorem refl_tup {nm sym : String} (hi : op.info = (sym, nm)) (n : NoOp nm) (X : K.In s.heap) (I : InstAt s.heap x ox C od) (ht : s.TypeIs (.ref t) "tuple") (hc : selfFirst K C = true) {g : Addr} (hs0 : findIn K (.ref C) (PySem.dunder nm) = some (some (.ref g))) (hs : findIn K (.ref C) (dunderR nm) = some (some (.ref f))) (hf : isFn K (.ref f) = true)
    (h : wpAny (model prog w) A (call (.ref f) [.ref x, .ref t]) (CmpBack Q) E s) : wpAny (model prog w) A (binaryOp op (.ref t) (.ref x)) Q E s := by
  obtain ⟨cd, rest, hcd, hm⟩ := ksp_first hc
  have one := ksp_try X I hs hf h
  have L1 : Looks (model prog w) s.heap (typeOf (.ref x)) (.ref C) := I.type
  have L3 : Looks (model prog w) s.heap (fillsNumberSlot (.ref C) nm) true := fills_K X hcd hm hs0
  have hne : (Value.type "tuple" == Value.ref C) = false := Bool.eq_false_iff.mpr fun q => by cases beq_iff_eq.mp q
  simp only [binaryOp, hi]
  refine wpAny_holding (wpAny_bind ?_)
  unfold binaryOp1
  refine wpAny_bind (wpAny_typeOf ht (wpAny_bind (L1.at ?_)))
  simp only [hne, fills_tup n]
  refine wpAny_bind (wpAny_pure ?_)
  refine wpAny_bind (L3.at ?_)
  ksp_lk
  refine wpAny_mono one (fun r s' ⟨v, e, hq⟩ => ?_) fun _ _ e => e
  subst e
  ksp_lk
  exact hq
end
section
variable {X : Cx} {W : WX} {K : PySem.W.Frag} {C : Addr}
def rOwnT (K : PySem.W.Frag) (C : Addr) (sp : Sp) : R2 := fun v w H Q => ∃ a b dx fs xs, v = .ref a ∧ w = .ref b ∧ H a = some (.ins C dx fs) ∧ SqT K H b xs ∧ sp [.ref a, .ref b] H Q fun _ _ _ => False
def oOwnT (C : Addr) (c : Con) : R2T := fun x y h Q => match insOf h x, y with
  | some (C1, _), .tup _ => C1 = C ∧ c [x, y] h Q fun _ _ => False
  | _, _ => False
def rOwnR (K : PySem.W.Frag) (C : Addr) (sp : Sp) : R2 := fun w v H Q => rOwnT K C sp v w H Q
def oOwnR (C : Addr) (c : Con) : R2T := fun y x h Q => oOwnT C c x y h Q
theorem p_ownT {c : Con} : OP K (rOwnT K C (liftSp K 2 c)) (oOwnT C c) := fun S H h v w x y Q Q' m r1 r2 q pk => by
  unfold oOwnT at q
  split at q
  · rename_i C1 g1 ts e1
    obtain ⟨rfl, q⟩ := q
    obtain ⟨a, dx, fs, rfl, ea, _⟩ := insOf_ok m r1 e1
    have fin : ∀ {b : Addr} {xs : List V}, Rep K S H (.ref b) (.tup ts) → SqT K H b xs → rOwnT K C1 (liftSp K 2 c) (.ref a) (.ref b) H Q' := fun {b xs} r2 hb =>
      ⟨a, b, dx, fs, xs, rfl, rfl, ea, hb, S, h, [x, .tup ts], Q, _, m, .cons r1 (.cons r2 .nil), rfl, q, pk, fun _ _ _ _ _ _ _ _ _ z => z.elim⟩
    cases r2 with
    | tup s hh r => exact fin (.tup s hh r) (SqT.of hh)
    | tupK hh r => exact fin (.tupK hh r) (.inr hh)
  · exact q.elim
theorem p_ownR {c : Con} : OP K (rOwnR K C (liftSp K 2 c)) (oOwnR C c) := fun S H h v w x y Q Q' m r1 r2 q pk => p_ownT S H h w v y x Q Q' m r2 r1 q pk
theorem o_ownT {P : Program} {w : World} {k : Nat} {f : Addr} {fd : FuncData} {ps : List Str} {sp : Sp} {op : Operator} {nm sym : String} (n : NoOp nm) (hP : X.prog = P) (hw : X.w = w) (hc : PySem.W.selfFirst X.K C = true) (hm : Meth X.K C (PySem.dunder nm) f) (F : FnOk X.prog X.w X.K X.mg X.base (L2.CX P w) k f fd ps sp) (hr : Room k X.A) (hb : Binds X.K fd ps []) (hi : op.info = (sym, nm) := by rfl) :
    OpR X (binaryOp op) (rOwnT X.K C sp) := by
  intro pins s σ H x y v u Q I rx ry h
  obtain ⟨a, b, dx, fs, xs, rfl, rfl, ea, eb, q⟩ := h
  obtain rfl : v = .ref a := rx
  obtain rfl : u = .ref b := ry
  obtain ⟨oa, Ja⟩ := instAt I ea
  obtain ⟨its, rv, pl, _⟩ := I.tuple eb
  refine bin_tup hi n I.kIn Ja pl.typeIs hc hm.at_ hm.fn ?_
  exact wpAny_mono (run_fnS (us := [.ref a, .ref b]) (vs := [.ref a, .ref b]) (E := fun _ _ _ _ => False) F hr hb (noneAt hP hw σ) I (.cons rfl (.cons rfl .nil)) q) (fun _ _ z => back_ep z) fun _ _ z => z
theorem o_ownR {P : Program} {w : World} {k : Nat} {f g : Addr} {fd : FuncData} {ps : List Str} {sp : Sp} {op : Operator} {nm sym : String} (n : NoOp nm) (hP : X.prog = P) (hw : X.w = w) (hc : PySem.W.selfFirst X.K C = true) (hg : Meth X.K C (PySem.dunder nm) g) (hm : Meth X.K C (dunderR nm) f) (F : FnOk X.prog X.w X.K X.mg X.base (L2.CX P w) k f fd ps sp) (hr : Room k X.A) (hb : Binds X.K fd ps []) (hi : op.info = (sym, nm) := by rfl) :
    OpR X (binaryOp op) (rOwnR X.K C sp) := by
  intro pins s σ H x y v u Q I rx ry h
  obtain ⟨a, b, dx, fs, xs, rfl, rfl, ea, eb, q⟩ := h
  obtain rfl : v = .ref b := rx
  obtain rfl : u = .ref a := ry
  obtain ⟨oa, Ja⟩ := instAt I ea
  obtain ⟨its, rv, pl, _⟩ := I.tuple eb
  refine refl_tup hi n I.kIn Ja pl.typeIs hc hg.at_ hm.at_ hm.fn ?_
  exact wpAny_mono (run_fnS (us := [.ref a, .ref b]) (vs := [.ref a, .ref b]) (E := fun _ _ _ _ => False) F hr hb (noneAt hP hw σ) I (.cons rfl (.cons rfl .nil)) q) (fun _ _ z => back_ep z) fun _ _ z => z
end
theorem tabIn_of {K : Frag} {x : Str} {f c P : Addr} {oc : Value} {od : Option Addr} {fd : FuncData} {sl : Array (Option Value)} {kx : Value} {ky : Option Addr} {kv : Array Value} {kz : Array (Option Value)} (h1 : nsIn K mainGlobals x = some (some (.ref f))) (h2 : K.lookup f = some ⟨oc, od, .func fd, sl⟩) (h3 : fd.code = .ref c) (h4 : K.lookup c = some ⟨kx, ky, .fields kv, kz⟩) (h5 : kv[11]? = some (.ref P)) : tabIn K x = some (c, P) := by
  unfold tabIn
  simp only [h1, h2, h3, h4, h5]
end TL

namespace TL
open PySem PySem.Spec PySem.Calls PyProof.Rows L2
section
variable {prog : Program} {w : World} {A : Around} {E : Value → Shared → Prop} {s : Shared}
theorem special_lst_item {it t : Addr} {i : Nat} {items : Array Value} {x : Value} {Q : Option Value → Shared → Prop} (hit : s.heap.IsListIter it t i) (ht : s.heap.IsList t items) (hx : items[i]? = some x)
    (hQ : ∀ h' : Heap, h'.IsListIter it t (i + 1) → Heap.SameBut it s.heap h' → Q (some x) { s with heap := h' }) : wpAny (model prog w) A (callSpecial? (.ref it) "__next__") Q E s := by
  obtain ⟨o, ho, hc, hd⟩ := id hit
  obtain ⟨ol, hol, _, nl, hdl⟩ := ht
  refine wpAny_callSpecial?_slot (name := Str.ofString "__next__") hit.typeIs slot_listiter_next (wpAny_call_entry slot_listiter_next hit.typeIs entry_listiter_next ?_ (args_listiter_next _))
  show wpAny _ _ (field (.ref it) 0 >>= _) _ _ s
  refine wpAny_bind (wpAny_field ho hd (x := .ref t) rfl ?_)
  show wpAny _ _ (if (Value.ref t == Value.none) = true then _ else _) _ _ s
  rw [if_neg (show ¬ ((Value.ref t == Value.none) = true) from Bool.false_ne_true)]
  show wpAny _ _ (field (.ref it) 1 >>= _) _ _ s
  refine wpAny_bind (wpAny_field ho hd (x := .int i 0) rfl ?_)
  show wpAny _ _ (seqItems? (.ref t) >>= _) _ _ s
  refine wpAny_bind (wpAny_seqItems hol hdl ?_)
  simp only [Int.toNat_natCast, hx]
  refine wpAny_bind (wpAny_setField ho hd (by simp) (wpAny_pure ⟨x, rfl, hQ _ ?_ (Heap.SameBut.update ..)⟩))
  exact ⟨_, Heap.get?_update_self _ ho (Obj.isFreed_of_fields (Obj.data_mapFields hd _)), (Obj.cls_mapFields ..).trans hc, by
    rw [Obj.data_mapFields hd]; simp [rawInt]⟩
theorem special_lst_end {it t : Addr} {i : Nat} {items : Array Value} {Q : Option Value → Shared → Prop} (hh : A.handled = none) (hit : s.heap.IsListIter it t i) (ht : s.heap.IsList t items) (hx : items[i]? = none)
    (hE : ∀ e h', StopX e h' → Heap.ExtBut it s.heap h' → E e { s with heap := h' }) : wpAny (model prog w) A (callSpecial? (.ref it) "__next__") Q E s := by
  obtain ⟨o, ho, hc, hd⟩ := id hit
  obtain ⟨ol, hol, _, nl, hdl⟩ := ht
  refine wpAny_callSpecial?_slot (name := Str.ofString "__next__") hit.typeIs slot_listiter_next (wpAny_call_entry slot_listiter_next hit.typeIs entry_listiter_next ?_ (args_listiter_next _))
  show wpAny _ _ (field (.ref it) 0 >>= _) _ _ s
  refine wpAny_bind (wpAny_field ho hd (x := .ref t) rfl ?_)
  show wpAny _ _ (if (Value.ref t == Value.none) = true then _ else _) _ _ s
  rw [if_neg (show ¬ ((Value.ref t == Value.none) = true) from Bool.false_ne_true)]
  show wpAny _ _ (field (.ref it) 1 >>= _) _ _ s
  refine wpAny_bind (wpAny_field ho hd (x := .int i 0) rfl ?_)
  show wpAny _ _ (seqItems? (.ref t) >>= _) _ _ s
  refine wpAny_bind (wpAny_seqItems hol hdl ?_)
  simp only [Int.toNat_natCast, hx]
  refine wpAny_bind (wpAny_rule (wpAny_bind (wpAny_setField ho hd (by simp) ?_)))
  show wpAny _ _ (newExc (.type "StopIteration") [] >>= _) _ _ _
  refine wpAny_bind ?_
  simp only [newExc, newTuple]
  refine wpAny_bind (wpAny_newObj_type ?_ (by size_fits))
  refine wpAny_bind (m := firstArgMember _ _) (wpAny_of_eq (a := Value.none) (by first | rfl | (simp only [firstArgMember]; rfl)) ?_)
  refine wpAny_newObj_type ?_ (by size_fits)
  simp only [raiseNew]
  refine wpAny_bind (wpAny_handled ?_)
  first | rw [show A.in1.handled = none from hh] | rw [hh]
  refine wpAny_bind (wpAny_pure (wpAny_throw ?_))
  refine hE _ _ ⟨_, _, _, rfl, Heap.get?_push_size _ rfl, rfl, rfl, ?_⟩ (((Heap.SameBut.update ..).extBut.push _).push _)
  first
    | rfl
    | (rw [Array.getElem?_append_left (by decide)]; rfl)
    | kernel_rfl
end
section
variable {X : Cx} {e : Expr} {te : TE}
def tYfLst (te : TE) : TYf := fun σ H Q => te σ H fun x H1 => ∃ a xs, x = .ref a ∧ H1 a = some (.lst xs) ∧ Q xs H1
theorem close_lst : typeLookup (.type "list_iterator") "close" = pure none := by rw [typeLookup_type, builtinLookup_eq_fast]; kernel_rfl
theorem yf_lst (he : PE X e te) : YfE X e (tYfLst te) := by
  refine ⟨fun pins s σ H Q I h => ?_⟩
  refine thn (he.run pins s σ H _ I h) fun v s1 ⟨x, H1, I1, r1, a, xs, ex, ha, hq⟩ => ?_
  subst ex
  obtain rfl : v = Value.ref a := r1
  obtain ⟨hlen, its, cn, rits, ho⟩ := I1.hok a _ ha
  have ht : s1.heap.IsList a its.toArray := ⟨_, ho, rfl, cn, rfl⟩
  have hlt : a < s1.heap.objs.size := by obtain ⟨o, ho, _⟩ := ht; exact Heap.lt_size ho
  refine ⟨"list", ht.typeIs, by decide, wpAny_pyIter_list ht ?_⟩
  have ksz : ∀ b o, s1.heap.get? b = some o → b ≠ s1.heap.objs.size := fun b o e => Nat.ne_of_lt (Heap.lt_size e)
  have kp : ∀ b o, s1.heap.get? b = some o → (s1.heap.push { cls := .type "list_iterator", data := .fields #[.ref a, .int 0 0] }).get? b = some o := fun b o e => Heap.get?_push_of_some _ e
  refine ⟨s1.heap.objs.size, H1, xs, fun j h => h.IsListIter s1.heap.objs.size a j ∧ h.IsList a its.toArray, rfl, I1.kept (t' := s1.toks) kp, .inr I1.sz, Nat.ne_of_gt I1.lt, fun y c hy => ?_, I1.hok.fresh (Nat.le_refl _), fun p hp => ?_,
    ⟨⟨_, Heap.get?_push_size _ rfl, rfl, rfl⟩, ht.push _⟩, ⟨⟨"list_iterator", fun j h q => ?_, close_lst, by decide⟩, fun j h h' q hk => ?_, fun A' j x s2 Q' E' hA hx q hQ => ?_, fun A' s2 Q' E' hA q hE => ?_⟩, hq⟩
  · obtain ⟨v, o, ho, _⟩ := I1.cell y c hy
    exact ksz c o ho
  · exact ksz p.1 _ (I1.pin p hp).1
  · obtain ⟨⟨o, ho, hc, _⟩, _⟩ := q
    exact ⟨o, ho, hc⟩
  · obtain ⟨⟨o, ho, r⟩, o2, ho2, r2⟩ := q
    exact ⟨⟨o, hk _ o (.inl rfl) ho, r⟩, o2, hk _ o2 (.inr (by rw [ha]; exact fun z => by cases z)) ho2, r2⟩
  · obtain ⟨q1, q2⟩ := q
    obtain ⟨u, hu, ru⟩ := rits.get hx
    have hne : a ≠ s1.heap.objs.size := Nat.ne_of_lt hlt
    exact special_lst_item q1 q2 (x := u) (by simpa using hu) fun h' q1' hs => hQ u h' s2.toks ru ⟨q1', q2.extBut hs.extBut hne⟩ fun b o hb eb => hs.extBut b o hb eb
  · obtain ⟨q1, q2⟩ := q
    have hnone : its.toArray[xs.length]? = none := by
      have e := rits.length
      have e2 : its[xs.length]? = none := List.getElem?_eq_none_iff.mpr (by omega)
      simpa using e2
    exact special_lst_end hA q1 q2 hnone fun e h' hS hk => hE e h' s2.toks hS fun b o hb eb => hk b o hb eb
end
structure GnE where
  nx : List T → SK
  rt : List T → TK := fun _ _ _ => False
  bk : List T → SK := fun _ _ _ => False
  ct : List T → SK := fun _ _ _ => False
  ex : EX
abbrev GnM := GnE → List T → Sl → Hq → Prop
abbrev ConG := List T → Hq → (List T → Hq → Prop) → (Ex → Hq → Prop) → Prop
structure LkG (K : PySem.W.Frag) (W : WX) (S : Fz) (H : Hp) (D : GnE) (D' : GEnds) : Prop where
  nx : ∀ S1 H1 h1 σ s vs ts, Fut S H S1 H1 → Sim K S1 H1 h1 → RepS K S1 H1 σ s → RepL K S1 H1 vs ts → D.nx ts s h1 → D'.nx vs σ H1
  rt : ∀ S1 H1 h1 v u vs ts, Fut S H S1 H1 → Sim K S1 H1 h1 → Rep K S1 H1 v u → RepL K S1 H1 vs ts → D.rt ts u h1 → D'.rt vs v H1
  bk : ∀ S1 H1 h1 σ s vs ts, Fut S H S1 H1 → Sim K S1 H1 h1 → RepS K S1 H1 σ s → RepL K S1 H1 vs ts → D.bk ts s h1 → D'.bk vs σ H1
  ct : ∀ S1 H1 h1 σ s vs ts, Fut S H S1 H1 → Sim K S1 H1 h1 → RepS K S1 H1 σ s → RepL K S1 H1 vs ts → D.ct ts s h1 → D'.ct vs σ H1
  ex : LkX K W S H D.ex
def liftY (K : PySem.W.Frag) (W : WX) (m : GnM) : TGn := fun D' ys' σ H => ∃ S h s D ys, Sim K S H h ∧ RepS K S H σ s ∧ RepL K S H ys' ys ∧ LkG K W S H D D' ∧ m D ys s h
def JY (X : Cx) (W : WX) (st : List Stmt) (m : GnM) : Prop := GSs X st (liftY X.K W m)
def JY1 (X : Cx) (W : WX) (st : Stmt) (m : GnM) : Prop := GS X st (liftY X.K W m)
theorem GSs.wk {X : Cx} {st : List Stmt} {t t' : TGn} (h : GSs X st t) (k : ∀ D ys σ H, t' D ys σ H → t D ys σ H) : GSs X st t' := ⟨fun A S ip R n ys s₀ c fs K J gd lv s σ H D g hn gk gi q => h.run A S ip R n ys s₀ c fs K J gd lv s σ H D g hn gk gi (k _ _ _ _ q)⟩
theorem GS.wk {X : Cx} {st : Stmt} {t t' : TGn} (h : GS X st t) (k : ∀ D ys σ H, t' D ys σ H → t D ys σ H) : GS X st t' := ⟨fun A S ip R n ys s₀ c fs K J gd lv s σ H D g hn gk gi q => h.run A S ip R n ys s₀ c fs K J gd lv s σ H D g hn gk gi (k _ _ _ _ q)⟩
def yPlain (a : SM) : GnM := fun D ys s h => a { nx := D.nx ys, rt := D.rt ys, bk := D.bk ys, ct := D.ct ys, ex := D.ex } s h
def yYield (m : EM) : GnM := fun D ys s h => ys.length < lim ∧ m s h (fun x h1 => D.nx (ys ++ [x]) s h1) D.ex
def yFrom (m : EM) : GnM := fun D ys s h => m s h (fun x h1 => match x with
  | .ref p => match h1 p with
    | some (.lst ts) => ys.length + ts.length ≤ lim ∧ D.nx (ys ++ ts) s h1
    | _ => False
  | _ => False) D.ex
def yNil : GnM := fun D ys s h => D.nx ys s h
def ySeq (a b : GnM) : GnM := fun D ys s h => a { D with nx := fun ys' s' h' => b D ys' s' h' } ys s h
section
variable {X : Cx} {W : WX} {st : Stmt} {rest : List Stmt}
theorem LkG.fut {K : PySem.W.Frag} {S S1 : Fz} {H H1 : Hp} {D : GnE} {D' : GEnds} (l : LkG K W S H D D') (f : Fut S H S1 H1) : LkG K W S1 H1 D D' where
  nx := fun S2 H2 h2 σ s vs ts f2 => l.nx S2 H2 h2 σ s vs ts (f.trans f2)
  rt := fun S2 H2 h2 v u vs ts f2 => l.rt S2 H2 h2 v u vs ts (f.trans f2)
  bk := fun S2 H2 h2 σ s vs ts f2 => l.bk S2 H2 h2 σ s vs ts (f.trans f2)
  ct := fun S2 H2 h2 σ s vs ts f2 => l.ct S2 H2 h2 σ s vs ts (f.trans f2)
  ex := l.ex.fut f
theorem jy_plain {a : SM} (ha : JS X W st a) : JY1 X W st (yPlain a) := GS.wk (gs_ps ha) fun D ys σ H ⟨S, h, s, D', ts, m, rs, rl, lk, q⟩ =>
  ⟨S, h, s, _, m, rs, { nx := fun S1 H1 h1 σ1 s1 f1 m1 r1 q1 => lk.nx S1 H1 h1 σ1 s1 _ _ f1 m1 r1 (rl.fut f1) q1, rt := fun S1 H1 h1 v u f1 m1 r1 q1 => lk.rt S1 H1 h1 v u _ _ f1 m1 r1 (rl.fut f1) q1, bk := fun S1 H1 h1 σ1 s1 f1 m1 r1 q1 => lk.bk S1 H1 h1 σ1 s1 _ _ f1 m1 r1 (rl.fut f1) q1, ct := fun S1 H1 h1 σ1 s1 f1 m1 r1 q1 => lk.ct S1 H1 h1 σ1 s1 _ _ f1 m1 r1 (rl.fut f1) q1, ex := lk.ex }, q⟩
theorem RepL.app {K : PySem.W.Frag} {S : Fz} {H : Hp} : ∀ {vs vs' : List V} {ts ts' : List T}, RepL K S H vs ts → RepL K S H vs' ts' → RepL K S H (vs ++ vs') (ts ++ ts')
  | _, _, _, _, .nil, r => r
  | _, _, _, _, .cons a b, r => .cons a (RepL.app b r)
theorem jy_yield {e : Expr} {m : EM} {yp pos : Pos} (he : JE X W e m) (hco : X.env.scope.isCoroutine = false := by rfl) (hi : interactive X.env = false := by rfl) : JY1 X W (.Expr (.Yield (some e) yp) pos) (yYield m) := GS.wk (gs_yield he hco hi) fun D ys σ H ⟨S, h, s, D', ts, mm, rs, rl, lk, hl, q⟩ =>
  ⟨by rw [rl.length]; exact Nat.lt_of_lt_of_le hl (by decide), S, h, s, _, D'.ex, mm, rs, lk.ex, q, fun S1 H1 h1 v u f1 m1 r1 q1 => lk.nx S1 H1 h1 σ s _ _ f1 m1 (rs.fut f1) (RepL.app (rl.fut f1) (.cons r1 .nil)) q1⟩
theorem jy_from {e : Expr} {m : EM} {yp pos : Pos} (he : JE X W e m) (hc : X.A.handled = none) (hi : interactive X.env = false := by rfl) : JY1 X W (.Expr (.YieldFrom e yp) pos) (yFrom m) := GS.wk (gs_yieldFrom (yf_lst he) hc hi) fun D ys σ H ⟨S, h, s, D', ts, mm, rs, rl, lk, q⟩ =>
  ⟨S, h, s, _, D'.ex, mm, rs, lk.ex, q, fun S1 H1 h1 v u f1 m1 r1 q1 => by
    split at q1
    · rename_i p
      split at q1
      · rename_i us e1
        obtain ⟨hl, q1⟩ := q1
        cases r1
        obtain ⟨u', e2, vs, e3, r2⟩ := m1.ob p _ e1
        subst e3
        exact ⟨p, vs, rfl, e2, by rw [rl.length, r2.length]; exact lim_le hl, lk.nx S1 H1 h1 σ s _ _ f1 m1 (rs.fut f1) (RepL.app (rl.fut f1) r2) q1⟩
      · exact q1.elim
    · exact q1.elim⟩
theorem jys_nil : JY X W [] yNil := GSs.wk gss_nil fun D ys σ H ⟨S, h, s, D', ts, mm, rs, rl, lk, q⟩ => lk.nx S H h σ s _ _ Fut.refl mm rs rl q
theorem jys_cons {a b : GnM} (ha : JY1 X W st a) (hb : JY X W rest b) : JY X W (st :: rest) (ySeq a b) := GSs.wk (gss_cons ha hb) fun D ys σ H ⟨S, h, s, D', ts, mm, rs, rl, lk, q⟩ =>
  ⟨S, h, s, { D' with nx := fun ys' s' h' => b D' ys' s' h' }, ts, mm, rs, rl, { nx := fun S1 H1 h1 σ1 s1 vs us f1 m1 r1 r2 q1 => ⟨S1, h1, s1, D', us, m1, r1, r2, lk.fut f1, q1⟩, rt := lk.rt, bk := lk.bk, ct := lk.ct, ex := lk.ex }, q⟩
end
def liftSpG (K : PySem.W.Frag) (n : Nat) (c : ConG) : SpG := fun vs H Q' E' => ∃ S h ts Q E, Sim K S H h ∧ RepL K S H vs ts ∧ ts.length = n ∧ c ts h Q E ∧ PL K S H Q Q' ∧ PX K S H E E'
def dnL (Q : List T → Hq → Prop) (ts : List T) (h : Hq) : Prop := ∃ h2, Sub h2 h ∧ Q ts h2
def endsG (Q : List T → Hq → Prop) (E : Ex → Hq → Prop) : GnE := { nx := fun ts _ h => dnL Q ts h, rt := fun ts v h => v = .non ∧ dnL Q ts h, ex := fun x _ h => dnX E x h }
theorem gfn_ok {P : Program} {w : World} {K : PySem.W.Frag} {mg : Str → Option Value} {base : Heap} {x qual : Str} {st : Stmt} {f : Addr} {fd : FuncData} {N ps : List Str} {k : Nat} {c : ConG} {B : GnM} (F : Fun K x qual st f fd) (sc : GScope N ps (defScope st)) (hl : ps.length ≤ N.length)
    (J : ∀ (cdv : Value) (A : Around) (outer : List Env) (s : Shared) (H : Hp) (E : XK) (pn : List (Addr × Obj)), Room k (A.deeper (PyProof.Rows.envOfC qual (defScope st) s.heap.objs.size f cdv)) →
      JY (gcxOf P w K mg base N qual (defScope st) f cdv A outer s H E pn) (fun cls d _ H => E cls d H) (defBody st) B)
    (pl : ∀ ts h Q E, ts.length = ps.length → c ts h Q E → B (endsG Q E) [] (startT N.length ts) h) : GFn P w K mg base (k + 1) f fd ps (liftSpG K ps.length c) := by
  obtain ⟨oc, od, kV, doc, pm, an, cdv, ct, osl, rfl, lk, hcd⟩ := F.ex
  refine gfn_of lk hcd sc (fun vs H Q E ⟨S, h, ts, Q', E', m, r, l, _⟩ => r.length.trans l) fun A outer s H vs Q E pn hr ⟨S, h, ts, Q', E', m, r, l, q, pk, px⟩ => ⟨_, J cdv A outer s H E pn hr, ?_⟩
  refine ⟨S, h, startT N.length ts, endsG Q' E', [], m, ?_, .nil, ?_, pl ts h Q' E' l q⟩
  · exact RepS.start (N := N) r (by rw [r.length, l]; exact hl)
  · exact { nx := fun S1 H1 h1 σ1 s1 vs1 ts1 f1 m1 r1 r2 ⟨h2, z, q1⟩ => pk S1 H1 h2 _ _ f1 (m1.sub z) r2 q1, rt := fun S1 H1 h1 v u vs1 ts1 f1 m1 r1 r2 ⟨e, h2, z, q1⟩ => by
              subst e
              cases r1
              exact ⟨rfl, pk S1 H1 h2 _ _ f1 (m1.sub z) r2 q1⟩, bk := fun _ _ _ _ _ _ _ _ _ _ _ z => z.elim, ct := fun _ _ _ _ _ _ _ _ _ _ _ z => z.elim,
            ex := fun S1 H1 h1 σ1 s1 x cls d f1 m1 r1 rx ⟨h2, z, q1⟩ => px S1 H1 h2 x cls d f1 (m1.sub z) rx q1 }
section
variable {X : Cx} {W : WX} {C : Addr}
def eListG (C : Addr) (nm : Str) (n : Nat) (c : ConG) (mo : EM) (ma : AM) : EM := fun s h Q E => mo s h (fun x h1 => match insOf h1 x with
  | some (C', gs) => C' = C ∧ gs.lookup nm = none ∧ ma s h1 (fun ts h2 => ts.length + 1 = n ∧ c (x :: ts) h2 (fun out h3 => mk false out h3 Q) fun _ _ => False) E
  | none => False) E
theorem pass_no {X : Cx} : Passes (L2.CX X.prog X.w) X (fun _ _ _ => False) := fun pins σ H s e s' I c => by
  obtain ⟨_, _, _, _, _, _, _, _, _, _, _, _, z⟩ := c
  exact z.elim
theorem j_listG {k n : Nat} {f : Addr} {fd : FuncData} {ps : List Str} {c : ConG} {nm m : Str} {p pos pos' apos : Pos} {e o : Expr} {es : List Expr} {mo : EM} {ma : AM} {pl : Sem Bool} (hc : Cls X.K C) (hm : Meth X.K C m f) (F : GFn X.prog X.w X.K X.mg X.base k f fd ps (liftSpG X.K n c)) (hr : Room (k + 3) X.A) (hb : Binds X.K fd ps []) (ho : JE X W o mo) (ha : JA X W (e :: es) ma)
    (hg : Gl X nm) (hmg : X.mg nm = none) (hv : bootBuiltins nm = some (.type "list")) (hnm : nm ≠ "__name__" := by decide) (hdb : (nm == ("__debug__" : Str)) = false := by decide)
    (he : starEach [.Call (.Attribute o m apos) (e :: es) [] pos'] X.env = (false, eval (.Call (.Attribute o m apos) (e :: es) [] pos') X.env) :: starEach [] X.env := by rfl)
    (hst : starEach (e :: es) X.env = (false, eval e X.env) :: starEach es X.env := by rfl) (hpl : (backTo pos' (starEach es X.env)).any (·.1) = false := by rfl)
    (ht : eval (.Call (.Attribute o m apos) (e :: es) [] pos') X.env = (do
      let ov ← eval o X.env
      standAt apos.atName
      let (f, first) ← holding [ov] (getMethod ov m pl)
      callWith pos' f first (backTo pos' (starEach (e :: es) X.env)) (backToKw pos' (keywordEach [] X.env))) := by rfl) :
    JE X W (.Call (.Name nm p) [.Call (.Attribute o m apos) (e :: es) [] pos'] [] pos) (eListG C m n c mo ma) :=
  PE.wk (pe_listG (pgen_meth (E := fun _ _ _ => False) (dvs := []) ho hc hm F (hr.mono (by omega)) hb .nil ha hst hpl ht) pass_no (fun _ _ _ z => z.elim) hr hg hmg hv hnm hdb he) fun σ H Q' ⟨S, h, s, Q, E, mm, rs, lk, q, pk⟩ =>
  ⟨S, h, s, _, E, mm, rs, lk, q, fun S1 H1 h1 v x f1 m1 r1 q1 => by
    split at q1
    · rename_i C' gs e1
      obtain ⟨rfl, l, q1⟩ := q1
      obtain ⟨a, dx, fs, rfl, ea, rf⟩ := insOf_ok m1 r1 e1
      refine ⟨a, dx, fs, rfl, ea, rf.nolook l, S1, h1, s, _, E, m1, rs.fut f1, lk.fut f1, q1, fun S2 H2 h2 vs ts f2 m2 r2 ⟨l2, q2⟩ => ?_⟩
      show liftSpG X.K n c (V.ref a :: (vs ++ [])) H2 _ _
      rw [List.append_nil]
      exact ⟨S2, h2, x :: ts, _, _, m2, .cons (r1.fut f2) r2, l2, q2, fun S3 H3 h3 us out f3 m3 r3 q3 p hp => mk_ok m3 r3 q3 (pk.fut (f1.trans (f2.trans f3))) p hp, fun _ _ _ _ _ _ _ _ _ z => z.elim⟩
    · exact q1.elim⟩
end
theorem j_globT {X : Cx} {W : WX} {x : Str} {a : Addr} {vs : List V} {ts : List T} {pos : Pos} (hg : Gl X x) (hm : X.mg x = some (.ref a)) (hk : KT X.K a vs) (hr : ∀ S H, RepL X.K S H vs ts) (hd : (x == ("__debug__" : Str)) = false := by decide) : JE X W (.Name x pos) (eC (.tup ts)) := j_c (v := .ref a) (pe_glob hg hm rfl hd) fun S H => .tupK hk (hr S H)
def strsOf : List T → Option (List Str)
  | [] => some []
  | .str x :: ts => match strsOf ts with
    | some zs => some (x :: zs)
    | none => none
  | _ => none
theorem strsOf_ok {K : PySem.W.Frag} {S : Fz} {H : Hp} : ∀ {vs : List V} {ts : List T} {zs : List Str}, RepL K S H vs ts → strsOf ts = some zs → vs = zs.map V.str
  | _, [], _, r, e => by cases r; cases e; rfl
  | _, t :: ts, zs, r, e => by
    cases r with
    | cons r1 rn =>
      cases t with
      | str x =>
        unfold strsOf at e
        split at e
        · rename_i us eu
          cases e
          cases r1
          rw [strsOf_ok rn eu]
          rfl
        · cases e
      | _ => cases e
def oInS (neg : Bool) : R2T := fun x y h Q => match x, y with
  | .str z, .tup ts => match strsOf ts with
    | some zs => Q (.bl (if neg then !(zs.any (· == z)) else zs.any (· == z))) h
    | none => False
  | _, _ => False
theorem p_inS {K : PySem.W.Frag} {neg : Bool} : OP K (rIn K neg) (oInS neg) := fun S H h v w x y Q Q' m r1 r2 q pk => by
  unfold oInS at q
  split at q
  · rename_i z ts
    split at q
    · rename_i zs ez
      cases r1
      have fin : ∀ {b : Addr} {xs : List V}, SqT K H b xs → RepL K S H xs ts → rIn K neg (.str z) (.ref b) H Q' := fun {b xs} hb rl => by
        have e := strsOf_ok rl ez
        subst e
        refine ⟨b, _, rfl, .inr hb, rfl, ?_, pk S H h _ _ Fut.refl m (.bl _) ?_⟩
        · rw [List.all_eq_true]
          intro u hu
          obtain ⟨_, _, rfl⟩ := List.mem_map.mp hu
          rfl
        · have e2 : inV (.str z) (zs.map V.str) = zs.any (· == z) := by
            unfold inV
            rw [List.any_map]
            rfl
          rw [e2]
          exact q
      cases r2 with
      | tup s hh rl => exact fin (.inl (.inl hh)) rl
      | tupK hh rl => exact fin (.inr hh) rl
    · exact q.elim
  · exact q.elim
def gUn (n : Nat) (b : GMs) : GM := fun t s h Q E => match t with
  | .lst ts => ts.length = n ∧ b ts s h Q E
  | _ => False
theorem jg_un {X : Cx} {W : WX} {es : List Expr} {k n : Nat} {b : GMs} {pos : Pos} (hc : X.calm = true) (hb : JGs X W es b) (hn : (assignEach es X.env).length = n := by rfl) (hst : (assignEach es X.env).findIdx? (·.1) = none := by rfl) : JG X W (.Tuple es k pos) (gUn n b) := PG.wk (pg_unl hc hb hn hst) fun v σ H Q' ⟨S, h, s, t, Q, E, m, rs, r, lk, hm, pk⟩ => by
  unfold gUn at hm
  split at hm
  · cases r with
    | lst s hh r => exact ⟨_, _, rfl, .inl (.inl hh), by rw [r.length]; exact hm.1, S, h, _, _, Q, E, m, rs, r, lk, hm.2, pk⟩
  · exact hm.elim
end TL

set_option maxHeartbeats 1000000
namespace TL
open PySem L2
def oSrtI (fl : Bool) : RLT := fun xs h Q => match xs with
  | [x] => match intsIn h x with
    | some ns => ns.length < 64 ∧ ∀ ns' : List Int, ns'.Perm ns → ns'.Pairwise (· ≤ ·) → mk fl (ns'.map .int) h Q
    | none => False
  | _ => False
theorem c_srtI {K : PySem.W.Frag} (fl : Bool) : CP K (rSorted K) (oSrtI fl) := fun S H h vs xs Q Q' m r q pk => by
  unfold oSrtI at q
  split at q
  · cases r with
    | cons r1 rn =>
      cases rn
      split at q
      · rename_i ns e
        obtain ⟨a, rfl, ha⟩ := intsIn_ok m r1 e
        exact ⟨a, ns, rfl, SqL.of ha, q.1, fun ns' p h1 h2 hp => mk_ok m (RepL.of_ints ns') (q.2 ns' h1 h2) pk p hp⟩
      · exact q.elim
  · exact q.elim
end TL

set_option maxHeartbeats 1000000
namespace TL
open PySem L2
def Ev (s : Sl) (h : Hq) (E : EX) (e : EM) (x : T) : Prop := ∀ Q : TK, Q x h → e s h Q E
def Ef (s : Sl) (h : Hq) (E : EX) (b : Bool) (t : TM) : Prop := ∀ Q : Bool → Hq → Prop, Q b h → t s h Q E
def Ea (s : Sl) (h : Hq) (E : EX) (m : AM) (xs : List T) : Prop := ∀ Q : List T → Hq → Prop, Q xs h → m s h Q E
section
variable {s : Sl} {h : Hq} {E : EX}
theorem ev_var {i : Nat} {x : T} (hi : s[i]? = some (some x)) : Ev s h E (eVar i) x := fun Q q => by unfold eVar; rw [hi]; exact q
theorem ev_c {x : T} : Ev s h E (eC x) x := fun Q q => q
theorem ef_of {e : EM} {b : Bool} (he : Ev s h E e (.bl b)) : Ef s h E b (tOf e) := fun Q q => he _ q
theorem ef_tru {e : EM} {b : Bool} (he : Ev s h E e (.bl b)) : Ef s h E b (tTru e) := fun Q q => he _ q
theorem ef_or {x y : TM} (hx : Ef s h E false x) (hy : Ef s h E false y) : Ef s h E false (tOrM x y) := fun Q q => hx _ (hy _ q)
theorem ef_or1 {x y : TM} (hx : Ef s h E true x) : Ef s h E true (tOrM x y) := fun Q q => hx _ q
theorem ef_or2 {x y : TM} {b : Bool} (hx : Ef s h E false x) (hy : Ef s h E b y) : Ef s h E b (tOrM x y) := fun Q q => hx _ (hy _ q)
theorem ef_and1 {x y : TM} (hx : Ef s h E false x) : Ef s h E false (tAndM x y) := fun Q q => hx _ q
theorem ef_and2 {x y : TM} {b : Bool} (hx : Ef s h E true x) (hy : Ef s h E b y) : Ef s h E b (tAndM x y) := fun Q q => hx _ (hy _ q)
theorem ef_andL {x y : TM} {b c : Bool} (hx : Ef s h E b x) (hy : b = true → Ef s h E c y) : Ef s h E (b && c) (tAndM x y) := fun Q q => hx _ (by
  cases b with
  | false => exact q
  | true => exact hy rfl _ q)
theorem ef_orL {x y : TM} {b c : Bool} (hx : Ef s h E b x) (hy : b = false → Ef s h E c y) : Ef s h E (b || c) (tOrM x y) := fun Q q => hx _ (by
  cases b with
  | true => exact q
  | false => exact hy rfl _ q)
theorem ef_not {x : TM} {b : Bool} (hx : Ef s h E b x) : Ef s h E (!b) (tNotM x) := fun Q q => hx _ q
theorem ef_as {x : TM} {b c : Bool} (hx : Ef s h E b x) (e : b = c) : Ef s h E c x := e ▸ hx
theorem ev_as {x : EM} {u v : T} (hx : Ev s h E x u) (e : u = v) : Ev s h E x v := e ▸ hx
theorem if_no {c : TM} {x : SM} {D : En} {s : Sl} {h : Hq} (hc : Ef s h D.ex false c) (q : D.nx s h) : sIf c x sNext D s h := hc _ q
theorem if_else {c : TM} {x y : SM} {D : En} {s : Sl} {h : Hq} (hc : Ef s h D.ex false c) (q : y D s h) : sIf c x y D s h := hc _ q
theorem if_yes {c : TM} {x y : SM} {D : En} {s : Sl} {h : Hq} (hc : Ef s h D.ex true c) (q : x D s h) : sIf c x y D s h := hc _ q
theorem if_go {c : TM} {x y : SM} {D : En} {s : Sl} {h : Hq} {b : Bool} (hc : Ef s h D.ex b c) (q1 : b = true → x D s h) (q2 : b = false → y D s h) : sIf c x y D s h := hc _ (by
  cases b with
  | true => exact q1 rfl
  | false => exact q2 rfl)
theorem an_go {Q : List T → Hq → Prop} (q : Q [] h) : aNil s h Q E := q
theorem ac_ev {x : EM} {v : T} {m : AM} {Q : List T → Hq → Prop} (hx : Ev s h E x v) (q : m s h (fun ts h1 => Q (v :: ts) h1) E) : aCons x m s h Q E := hx _ q
theorem ac_any {x : EM} {m : AM} {Q : List T → Hq → Prop} (q : x s h (fun v h1 => m s h1 (fun ts h2 => Q (v :: ts) h2) E) E) : aCons x m s h Q E := q
theorem ea_nil : Ea s h E aNil [] := fun Q q => q
theorem ea_cons {x : EM} {v : T} {m : AM} {vs : List T} (hx : Ev s h E x v) (hm : Ea s h E m vs) : Ea s h E (aCons x m) (v :: vs) := fun Q q => hx _ (hm _ q)
theorem call_go {n : Nat} {c : Con} {m : AM} {Q : TK} (q : m s h (fun ts h1 => ts.length = n ∧ c ts h1 (frzK Q) fun x h2 => E x s h2) E) : eFrz (eCall n c m) s h Q E := q
theorem calls {n : Nat} {c : Con} {m : AM} {Q : TK} {vs : List T} (hm : Ea s h E m vs) (hl : vs.length = n := by rfl) (q : c vs h (frzK Q) fun x h2 => E x s h2) : eFrz (eCall n c m) s h Q E := hm _ ⟨hl, q⟩
theorem calls0 {n : Nat} {c : Con} {m : AM} {Q : TK} {vs : List T} (hm : Ea s h E m vs) (hl : vs.length = n := by rfl) (q : c vs h Q fun x h2 => E x s h2) : eCall n c m s h Q E := hm _ ⟨hl, q⟩
theorem ev_andV {x y : EM} {b c : Bool} (hx : Ev s h E x (.bl b)) (hy : Ev s h E y (.bl c)) : Ev s h E (eAndV x y) (.bl (b && c)) := fun Q q => hx _ (by
  cases b
  · exact q
  · exact hy _ q)
theorem ev_andT {x y : EM} {v : T} (hx : Ev s h E x (.bl true)) (hy : Ev s h E y v) : Ev s h E (eAndV x y) v := fun Q q => hx _ (hy _ q)
theorem ev_andF {x y : EM} (hx : Ev s h E x (.bl false)) : Ev s h E (eAndV x y) (.bl false) := fun Q q => hx _ q
theorem ev_orT {x y : EM} (hx : Ev s h E x (.bl true)) : Ev s h E (eOrV x y) (.bl true) := fun Q q => hx _ q
theorem ev_orF {x y : EM} {v : T} (hx : Ev s h E x (.bl false)) (hy : Ev s h E y v) : Ev s h E (eOrV x y) v := fun Q q => hx _ (hy _ q)
theorem ev_notV {x : EM} {b : Bool} (hx : Ev s h E x (.bl b)) : Ev s h E (eNotV x) (.bl (!b)) := fun Q q => hx _ q
theorem ev_ifT {c : TM} {x y : EM} {v : T} (hc : Ef s h E true c) (hx : Ev s h E x v) : Ev s h E (eIf c x y) v := fun Q q => hc _ (hx _ q)
theorem ev_ifF {c : TM} {x y : EM} {v : T} (hc : Ef s h E false c) (hx : Ev s h E y v) : Ev s h E (eIf c x y) v := fun Q q => hc _ (hx _ q)
theorem ev_ifL {c : TM} {x y : EM} {b : Bool} {u v : T} (hc : Ef s h E b c) (hx : b = true → Ev s h E x u) (hy : b = false → Ev s h E y v) : Ev s h E (eIf c x y) (if b = true then u else v) := fun Q q => hc _ (by
  cases b with
  | true => exact hx rfl _ q
  | false => exact hy rfl _ q)
theorem str_eq (h : Hq) {x y : Str} (hx : PyData.strOk x = true) (hy : PyData.strOk y = true) : depth? (view h (.str x)) = true ∧ depth? (view h (.str y)) = true ∧ eqT (view h (.str x)) (view h (.str y)) = decide (x = y) := by
  refine ⟨dep (n := 1) hx, dep (n := 1) hy, ?_⟩
  show eqT (.str x) (.str y) = _
  rw [eqT_str hx hy]
theorem ev_str {x y : Str} {u v : EM} {b : Bool} (hu : Ev s h E u (.str x)) (hv : Ev s h E v (.str y)) (hx : PyData.strOk x = true) (hy : PyData.strOk y = true) (e : decide (x = y) = b) : Ev s h E (eOp oEq u v) (.bl b) := fun Q q => hu _ (hv _ (by
  obtain ⟨a1, a2, a3⟩ := str_eq h hx hy
  refine ⟨a1, a2, ?_⟩
  rw [a3, e]
  exact q))
theorem ev_op {o : R2T} {a b : EM} {x y v : T} (ha : Ev s h E a x) (hb : Ev s h E b y) (ho : ∀ Q : TK, Q v h → o x y h Q) : Ev s h E (eOp o a b) v := fun Q q => ha _ (hb _ (ho Q q))
theorem ev_sub {a b : EM} {i j : Int} (ha : Ev s h E a (.int i)) (hb : Ev s h E b (.int j)) : Ev s h E (eOp oSub a b) (.int (i - j)) := ev_op ha hb fun _ q => q
theorem ev_add {fl : Bool} {a b : EM} {i j : Int} (ha : Ev s h E a (.int i)) (hb : Ev s h E b (.int j)) : Ev s h E (eOp (oAdd fl) a b) (.int (i + j)) := ev_op ha hb fun _ q => q
theorem ev_mul {fl : Bool} {a b : EM} {i j : Int} (ha : Ev s h E a (.int i)) (hb : Ev s h E b (.int j)) (c : MulOk i j) : Ev s h E (eOp (oMul fl) a b) (.int (i * j)) := ev_op ha hb fun _ q => ⟨c, q⟩
theorem ev_div {a b : EM} {i j : Int} (ha : Ev s h E a (.int i)) (hb : Ev s h E b (.int j)) (c : 0 < j ∧ j < 2 ^ 250) : Ev s h E (eOp oDiv a b) (.int (i / j)) := ev_op ha hb fun _ q => ⟨c, q⟩
theorem ev_mod {a b : EM} {i j : Int} (ha : Ev s h E a (.int i)) (hb : Ev s h E b (.int j)) (c : 0 < j) : Ev s h E (eOp oMod a b) (.int (i % j)) := ev_op ha hb fun _ q => ⟨c, q⟩
theorem ev_lt {a b : EM} {i j : Int} (ha : Ev s h E a (.int i)) (hb : Ev s h E b (.int j)) : Ev s h E (eOp oLt a b) (.bl (decide (i < j))) := ev_op ha hb fun _ q => q
theorem ev_le {a b : EM} {i j : Int} (ha : Ev s h E a (.int i)) (hb : Ev s h E b (.int j)) : Ev s h E (eOp oLe a b) (.bl (decide (i ≤ j))) := ev_op ha hb fun _ q => q
theorem ev_gt {a b : EM} {i j : Int} (ha : Ev s h E a (.int i)) (hb : Ev s h E b (.int j)) : Ev s h E (eOp oGt a b) (.bl (decide (j < i))) := ev_op ha hb fun _ q => q
theorem ev_ge {a b : EM} {i j : Int} (ha : Ev s h E a (.int i)) (hb : Ev s h E b (.int j)) : Ev s h E (eOp oGe a b) (.bl (decide (j ≤ i))) := ev_op ha hb fun _ q => q
theorem ev_eqI {a b : EM} {i j : Int} (ha : Ev s h E a (.int i)) (hb : Ev s h E b (.int j)) : Ev s h E (eOp oEq a b) (.bl (decide (i = j))) := ev_op ha hb fun _ q => ⟨rfl, rfl, by rw [show view h (.int i) = .int i from rfl, show view h (.int j) = .int j from rfl, eqT_int]; exact q⟩
theorem ev_neI {a b : EM} {i j : Int} (ha : Ev s h E a (.int i)) (hb : Ev s h E b (.int j)) : Ev s h E (eOp oNe a b) (.bl (!decide (i = j))) := ev_op ha hb fun _ q => ⟨rfl, rfl, by rw [show view h (.int i) = .int i from rfl, show view h (.int j) = .int j from rfl, eqT_int]; exact q⟩
def nonB : T → Bool
  | .non => true
  | _ => false
theorem ev_isN {a : EM} {x : T} {b : Bool} (ha : Ev s h E a x) (e : nonB x = b) : Ev s h E (eOp oIsN a (eC .non)) (.bl b) := fun Q q => ha _ (by
  subst e
  cases x <;> exact q)
theorem ev_notN {a : EM} {x : T} {b : Bool} (ha : Ev s h E a x) (e : (!nonB x) = b) : Ev s h E (eOp oNotN a (eC .non)) (.bl b) := fun Q q => ha _ (by
  subst e
  cases x <;> exact q)
theorem ev_int {a : EM} {i : Int} (ha : Ev s h E a (.int i)) : Ev s h E (eCB oInt (aCons a aNil)) (.int i) := fun Q q => ha _ q
theorem ev_intB {a : EM} {b : Bool} (ha : Ev s h E a (.bl b)) : Ev s h E (eCB oInt (aCons a aNil)) (.int (if b then 1 else 0)) := fun Q q => ha _ q
theorem ev_max {a b : EM} {i j : Int} (ha : Ev s h E a (.int i)) (hb : Ev s h E b (.int j)) : Ev s h E (eCB oMax (aCons a (aCons b aNil))) (.int (if j > i then j else i)) := fun Q q => ha _ (hb _ q)
theorem ev_min {a b : EM} {i j : Int} (ha : Ev s h E a (.int i)) (hb : Ev s h E b (.int j)) : Ev s h E (eCB oMin (aCons a (aCons b aNil))) (.int (if j < i then j else i)) := fun Q q => ha _ (hb _ q)
theorem ev_neg {a : EM} {i : Int} (ha : Ev s h E a (.int i)) : Ev s h E (eNeg a) (.int (-i)) := fun Q q => ha _ q
theorem ev_tup {m : AM} {vs : List T} (hm : Ea s h E m vs) (l : vs.length ≤ lim) : Ev s h E (eTup m) (.tup vs) := fun Q q => hm _ ⟨l, q⟩
theorem ev_lstT {m : AM} {vs : List T} (hm : Ea s h E m vs) (l : vs.length ≤ lim) : Ev s h E (eLst true m) (.lst vs) := fun Q q => hm _ ⟨l, by rw [mk_true]; exact q⟩
theorem ev_len {a : EM} {x : T} {ts : List T} (ha : Ev s h E a x) (e : lsOf h x = some ts) : Ev s h E (eCB oLen (aCons a aNil)) (.int ts.length) := fun Q q => ha _ (by
  cases x <;> first
    | (cases e; done)
    | skip
  · cases e; exact q
  · show (match lsOf h (.ref _) with | some ts => Q (.int ts.length) h | none => False)
    rw [e]
    exact q)
theorem ev_ixT {a b : EM} {ts : List T} {i : Int} {v : T} (ha : Ev s h E a (.tup ts)) (hb : Ev s h E b (.int i)) (e : atI ts i = some v) : Ev s h E (eOp oIx a b) v := ev_op ha hb fun Q q => by
  show atK ts i h Q
  unfold atK
  rw [e]
  exact q
theorem ev_ixL {a b : EM} {x : T} {ts : List T} {i : Int} {v : T} (ha : Ev s h E a x) (hb : Ev s h E b (.int i)) (el : lsOf h x = some ts) (e : atI ts i = some v) : Ev s h E (eOp oIx a b) v := ev_op ha hb fun Q q => by
  cases x <;> first
    | (cases el; done)
    | skip
  · cases el
    show atK _ i h Q
    unfold atK
    rw [e]
    exact q
  · show (match lsOf h (.ref _) with | some ts => atK ts i h Q | none => False)
    rw [el]
    dsimp only
    unfold atK
    rw [e]
    exact q
theorem ev_repr {a : EM} {x : T} {z : Str} (ha : Ev s h E a x) (e : reprT x = some z) : Ev s h E (eCB oRepr (aCons a aNil)) (.str z) := fun Q q => ha _ (by
  show (match reprT x with | some z => Q (.str z) h | none => False)
  rw [e]
  exact q)
theorem ev_isi {a : EM} {x : T} {n : String} {k c : Kd} (ha : Ev s h E a x) (e1 : kdOf h x = some k) (e2 : kdN n = some c) : Ev s h E (eCB oIsi (aCons a (aCons (eC (.ty n)) aNil))) (.bl (isK k c)) := fun Q q => ha _ (by
  show (match kdOf h x, kdN n with | some k, some c => Q (.bl (isK k c)) h | _, _ => False)
  rw [e1, e2]
  exact q)
theorem ev_eqC {a b : EM} {x y : T} {c : Bool} {n : Nat} (ha : Ev s h E a x) (hb : Ev s h E b y) (h1 : cln n (view h x) = true) (h2 : cln n (view h y) = true) (e : c = true ↔ view h x = view h y) (hn : n ≤ 64 := by decide) : Ev s h E (eOp oEq a b) (.bl c) := ev_op ha hb fun Q q => by
  refine ⟨dep (n := n) (cln_dat _ _ h1) hn, dep (n := n) (cln_dat _ _ h2) hn, ?_⟩
  have : eqT (view h x) (view h y) = c := Bool.eq_iff_iff.mpr ((eqT_iff n _ _ h1 h2).trans e.symm)
  rw [this]
  exact q
theorem ev_neC {a b : EM} {x y : T} {c : Bool} {n : Nat} (ha : Ev s h E a x) (hb : Ev s h E b y) (h1 : cln n (view h x) = true) (h2 : cln n (view h y) = true) (e : c = true ↔ view h x ≠ view h y) (hn : n ≤ 64 := by decide) : Ev s h E (eOp oNe a b) (.bl c) := ev_op ha hb fun Q q => by
  refine ⟨dep (n := n) (cln_dat _ _ h1) hn, dep (n := n) (cln_dat _ _ h2) hn, ?_⟩
  have : (!eqT (view h x) (view h y)) = c := by
    rw [Bool.eq_iff_iff, Bool.not_eq_true', e, ← Bool.not_eq_true]
    exact not_congr (eqT_iff n _ _ h1 h2)
  rw [this]
  exact q
theorem draw_go {i : Nat} {p : Addr} {z : EM} {n : Int} {Q : TK} (hi : s[i]? = some (some (.ref p))) (hz : Ev s h E z (.int n)) (hp : h p = some .pool) (n0 : 0 < n) (n1 : n < 2 ^ 250) (q : ∀ r, 0 ≤ r → r < n → Q (.int r) h) : eFrz (eCall 2 CDraw (aCons (eVar i) (aCons z aNil))) s h Q E :=
  call_go (ac_ev (ev_var hi) (ac_ev hz (show _ ∧ _ from ⟨rfl, p, n, rfl, n0, n1, hp, q⟩)))
end
section
variable {s s' : Sl} {h : Hq} {D : En} {r : SM} {e : EM} {i : Nat} {v : T}
theorem seq_go {a b : SM} (q : a { D with nx := b D } s h) : sSeq a b D s h := q
theorem set_go (q : e s h (fun x h1 => r D (s.set i (some x)) h1) D.ex) : sSeq (sAsg e (gN i)) r D s h := q
theorem set_ev (he : Ev s h D.ex e v) (q : r D (s.set i (some v)) h) : sSeq (sAsg e (gN i)) r D s h := he _ q
theorem asg_ev (he : Ev s h D.ex e v) (q : D.nx (s.set i (some v)) h) : sAsg e (gN i) D s h := he _ q
theorem drop_ev (he : Ev s h D.ex e v) (q : r D s h) : sSeq (sDrop e) r D s h := he _ q
theorem ret_ev (he : Ev s h D.ex e v) (q : D.rt v h) : sRet e D s h := he _ q
theorem sif_no {c : TM} {x : SM} (hc : Ef s h D.ex false c) (q : r D s h) : sSeq (sIf c x sNext) r D s h := hc _ q
theorem sif_yes {c : TM} {x y : SM} (hc : Ef s h D.ex true c) (q : x { D with nx := r D } s h) : sSeq (sIf c x y) r D s h := hc _ q
theorem sif_else {c : TM} {x y : SM} (hc : Ef s h D.ex false c) (q : y { D with nx := r D } s h) : sSeq (sIf c x y) r D s h := hc _ q
theorem sif_go {c : TM} {x y : SM} {b : Bool} (hc : Ef s h D.ex b c) (q1 : b = true → x { D with nx := r D } s h) (q2 : b = false → y { D with nx := r D } s h) : sSeq (sIf c x y) r D s h := hc _ (by
  cases b with
  | true => exact q1 rfl
  | false => exact q2 rfl)
theorem app_go {i : Nat} {p : Addr} {ts : List T} {m : EM} {E : EX} {Q : TK} (hi : s[i]? = some (some (.ref p))) (hp : h p = some (.lst ts)) (l : ts.length < lim) (hm : Ev s h E m v) (q : Q .non (put h p (.lst (ts ++ [v])))) : eBM isLs oApp (eVar i) (aCons m aNil) s h Q E := by
  refine ev_var hi _ ⟨?_, hm _ ?_⟩
  · unfold isLs lsOf
    dsimp only
    rw [hp]
    rfl
  · show (match h p with | some (.lst ts) => _ | _ => False)
    rw [hp]
    exact ⟨l, q⟩
theorem frz_lst {Q : TK} {ts : List T} {p : Addr} (np : h p = none) (q : Q (.lst ts) h) : frzK Q (.ref p) (put h p (.lst ts)) := by
  unfold frzK
  dsimp only
  rw [put_same]
  dsimp only
  rw [del_put np]
  exact q
theorem frz_ins {Q : TK} {C : Addr} {gs : List (Str × T)} {p : Addr} (np : h p = none) (q : Q (.ins C gs) h) : frzK Q (.ref p) (put h p (.ins C gs)) := by
  unfold frzK
  dsimp only
  rw [put_same]
  dsimp only
  rw [del_put np]
  exact q
end

def Ei (s : Sl) (h : Hq) (E : EX) (m : IM) (ts : List T) : Prop := ∀ Q : List T → (Hq → Prop) → Hq → Prop, (∀ stay : Hq → Prop, stay h → Q ts stay h) → m s h Q E
def Eq1 (s : Sl) (h : Hq) (E : EX) (m : IM) (ts : List T) : Prop := ∀ Q : List T → (Hq → Prop) → Hq → Prop, Q ts (fun _ => True) h → m s h Q E
section
variable {s : Sl} {h : Hq} {E : EX}
theorem Eq1.ei {m : IM} {ts : List T} (x : Eq1 s h E m ts) : Ei s h E m ts := fun Q q => x Q (q _ trivial)
theorem eq_seq {x : EM} {ts : List T} (hx : Ev s h E x (.lst ts)) : Eq1 s h E (iSeq x) ts := fun Q q => hx _ q
theorem ei_seqR {x : EM} {p : Addr} {ts : List T} (hx : Ev s h E x (.ref p)) (hp : h p = some (.lst ts)) : Ei s h E (iSeq x) ts := fun Q q => hx _ (by
  dsimp only
  rw [hp]
  exact q _ hp)
theorem eq_rng {x : EM} {n : Nat} (hx : Ev s h E x (.int n)) (hn : n ≤ 1000000) : Eq1 s h E (iRange1 (aCons x aNil)) (rng 0 n) := fun Q q => hx _ ⟨by omega, by omega, by rw [Int.toNat_natCast]; exact q⟩
theorem eq_rng2 {x y : EM} {i j : Int} (hx : Ev s h E x (.int i)) (hy : Ev s h E y (.int j)) (hi : -(2 ^ 62) ≤ i ∧ i < 2 ^ 62 ∧ -(2 ^ 62) ≤ j ∧ j < 2 ^ 62) : Eq1 s h E (iRange2 (aCons x (aCons y aNil))) (rng i (j - i).toNat) := fun Q q => hx _ (hy _ ⟨hi, q⟩)
theorem ev_lcF {α : Type} {enc : α → T} {xs : List α} {p : α → Bool} {f : α → T} {src : IM} {g : T → Sl → Option Sl} {tt : TM} {el : EM} (hs : Ei s h E src (xs.map enc)) (hl : xs.length ≤ 1000000)
    (he : ∀ x ∈ xs, ∃ s2, g (enc x) s = some s2 ∧ Ef s2 h E0 (p x) tt ∧ (p x = true → Ev s2 h E0 el (f x))) : Ev s h E (eLc true src g tt el) (.lst ((xs.filter p).map f)) := fun Q q => hs _ fun stay st => by
  refine lcK_fA (fun x => if p x = true then some (f x) else none) st hl (fun x hx R r => ?_) (by rw [mk_true, filterMap_ite]; exact q)
  obtain ⟨s2, e2, h1, h2⟩ := he x hx
  rw [e2]
  refine h1 _ ?_
  cases c : p x with
  | true =>
    rw [if_pos rfl]
    rw [if_pos c] at r
    exact h2 c _ r
  | false =>
    rw [if_neg Bool.false_ne_true]
    rw [if_neg (by rw [c]; exact Bool.false_ne_true)] at r
    exact r
theorem ev_lcM {α : Type} {enc : α → T} {xs : List α} {f : α → T} {src : IM} {g : T → Sl → Option Sl} {el : EM} (hs : Ei s h E src (xs.map enc)) (hl : xs.length ≤ 1000000)
    (he : ∀ x ∈ xs, ∃ s2, g (enc x) s = some s2 ∧ Ev s2 h E0 el (f x)) : Ev s h E (eLc true src g tYes el) (.lst (xs.map f)) := fun Q q => hs _ fun stay st => by
  refine lcK_mA f st hl (fun x hx R r => ?_) (by rw [mk_true]; exact q)
  obtain ⟨s2, e2, h2⟩ := he x hx
  rw [e2]
  exact h2 _ r
theorem forK_map {α : Type} {enc : α → T} {xs : List α} {stay : Hq → Prop} {g : GM} {b : SM} {D : En} {s : Sl} {h : Hq} (I : Nat → SK) (h0 : I 0 s h)
    (hend : ∀ s h, I xs.length s h → stay h ∧ D.nx s h) (hstep : ∀ i x s h, xs[i]? = some x → I i s h → stay h ∧ g (enc x) s h (fun s2 h2 => b { D with nx := I (i + 1), ct := I (i + 1), bk := D.nx } s2 h2) D.ex) : ForK (xs.map enc) stay g b D s h := by
  refine forK_go I h0 (fun s h q => hend s h (by rw [List.length_map] at q; exact q)) fun i t s h e q => ?_
  rw [List.getElem?_map] at e
  cases er : xs[i]? with
  | none => rw [er] at e; cases e
  | some x => rw [er] at e; cases e; exact hstep i x s h er q
theorem forK_rng {lo : Int} {n : Nat} {stay : Hq → Prop} {g : GM} {b : SM} {D : En} {s : Sl} {h : Hq} (I : Nat → SK) (h0 : I 0 s h)
    (hend : ∀ s h, I n s h → stay h ∧ D.nx s h) (hstep : ∀ (i : Nat) s h, i < n → I i s h → stay h ∧ g (.int (lo + i)) s h (fun s2 h2 => b { D with nx := I (i + 1), ct := I (i + 1), bk := D.nx } s2 h2) D.ex) : ForK (rng lo n) stay g b D s h := by
  refine forK_go I h0 (fun s h q => hend s h (by rw [rng_len] at q; exact q)) fun i t s h e q => ?_
  obtain ⟨hi, rfl⟩ := rng_at e
  exact hstep i s h hi q
theorem for_src {src : IM} {g : GM} {b : SM} {D : En} {ts : List T} {s : Sl} {h : Hq} (hs : Ei s h D.ex src ts) (q : ∀ stay : Hq → Prop, stay h → ForK ts stay g b D s h) : sFor src g b D s h := hs _ q
theorem for_src1 {src : IM} {g : GM} {b : SM} {D : En} {ts : List T} {s : Sl} {h : Hq} (hs : Eq1 s h D.ex src ts) (q : ForK ts (fun _ => True) g b D s h) : sFor src g b D s h := hs _ q
theorem drop_go {e : EM} {r : SM} {D : En} {s : Sl} {h : Hq} (q : e s h (fun _ h1 => r D s h1) D.ex) : sSeq (sDrop e) r D s h := q
theorem at_drop {α : Type} {xs : List α} {i : Nat} {x : α} (e : xs[i]? = some x) : i < xs.length ∧ xs.drop i = x :: xs.drop (i + 1) ∧ xs.take (i + 1) = xs.take i ++ [x] := by
  have il : i < xs.length := (List.getElem?_eq_some_iff.mp e).1
  refine ⟨il, ?_, by rw [List.take_add_one, e]; rfl⟩
  rw [List.drop_eq_getElem_cons il]
  rw [List.getElem?_eq_getElem il] at e
  cases e
  rfl
end
theorem op_go {o : R2T} {a b : EM} {s : Sl} {h : Hq} {E : EX} {Q : TK} (q : a s h (fun x h1 => b s h1 (fun y h2 => o x y h2 Q) E) E) : eOp o a b s h Q E := q
theorem sif1 {c : TM} {x r : SM} {D : En} {s : Sl} {h : Hq} {b : Bool} (hc : Ef s h D.ex b c) (q1 : b = true → x { D with nx := r D } s h) (q2 : b = false → r D s h) : sSeq (sIf c x sNext) r D s h := hc _ (by
  cases b with
  | true => exact q1 rfl
  | false => exact q2 rfl)
theorem sfor {src : IM} {g : GM} {b r : SM} {D : En} {ts : List T} {s : Sl} {h : Hq} (hs : Eq1 s h D.ex src ts) (I : Nat → SK) (h0 : I 0 s h) (hend : ∀ s h, I ts.length s h → r D s h)
    (hstep : ∀ i t s h, ts[i]? = some t → I i s h → g t s h (fun s2 h2 => b { nx := I (i + 1), rt := D.rt, bk := r D, ct := I (i + 1), ex := D.ex } s2 h2) D.ex) : sSeq (sFor src g b) r D s h := hs _ (forK_go I h0 (fun s h q => ⟨trivial, hend s h q⟩) fun i t s h e q => ⟨trivial, hstep i t s h e q⟩)
theorem sfor_map {α : Type} {enc : α → T} {src : IM} {g : GM} {b r : SM} {D : En} {xs : List α} {s : Sl} {h : Hq} (hs : Eq1 s h D.ex src (xs.map enc)) (I : Nat → SK) (h0 : I 0 s h) (hend : ∀ s h, I xs.length s h → r D s h)
    (hstep : ∀ i x s h, xs[i]? = some x → I i s h → g (enc x) s h (fun s2 h2 => b { nx := I (i + 1), rt := D.rt, bk := r D, ct := I (i + 1), ex := D.ex } s2 h2) D.ex) : sSeq (sFor src g b) r D s h := hs _ (forK_map I h0 (fun s h q => ⟨trivial, hend s h q⟩) fun i t s h e q => ⟨trivial, hstep i t s h e q⟩)
theorem sfor_rng {lo : Int} {n : Nat} {src : IM} {g : GM} {b r : SM} {D : En} {s : Sl} {h : Hq} (hs : Eq1 s h D.ex src (rng lo n)) (I : Nat → SK) (h0 : I 0 s h) (hend : ∀ s h, I n s h → r D s h)
    (hstep : ∀ (i : Nat) s h, i < n → I i s h → g (.int (lo + i)) s h (fun s2 h2 => b { nx := I (i + 1), rt := D.rt, bk := r D, ct := I (i + 1), ex := D.ex } s2 h2) D.ex) : sSeq (sFor src g b) r D s h := hs _ (forK_rng I h0 (fun s h q => ⟨trivial, hend s h q⟩) fun i s h e q => ⟨trivial, hstep i s h e q⟩)
theorem sfor_draw {i : Nat} {p : Addr} {z : EM} {k : Int} {g : GM} {b r : SM} {D : En} {s : Sl} {h : Hq} (hi : s[i]? = some (some (.ref p))) (hz : Ev s h D.ex z (.int k)) (hp : h p = some .pool) (k0 : 0 < k) (k1 : k ≤ 1000000)
    (q : ∀ n : Nat, (n : Int) < k → sSeq (sFor (iRange1 (aCons (eC (.int n)) aNil)) g b) r D s h) : sSeq (sFor (iRange1 (aCons (eFrz (eCall 2 CDraw (aCons (eVar i) (aCons z aNil)))) aNil)) g b) r D s h := by
  unfold sSeq sFor iRange1
  refine ac_any (draw_go hi hz hp k0 (by omega) fun m m0 m1 => ?_)
  obtain ⟨n, rfl⟩ : ∃ n : Nat, m = (n : Int) := ⟨m.toNat, by omega⟩
  exact q n m1
theorem spar {i j : Nat} {x y : EM} {u v : T} {r : SM} {D : En} {s : Sl} {h : Hq} (hx : Ev s h D.ex x u) (hy : Ev s h D.ex y v) (q : r D ((s.set i (some u)).set j (some v)) h) : sSeq (sPar i j (aCons x (aCons y aNil))) r D s h := hx _ (hy _ q)
theorem spar_go {i j : Nat} {x y : EM} {r : SM} {D : En} {s : Sl} {h : Hq} (q : x s h (fun u h1 => y s h1 (fun v h2 => r D ((s.set i (some u)).set j (some v)) h2) D.ex) D.ex) : sSeq (sPar i j (aCons x (aCons y aNil))) r D s h := q
theorem ev_slL {x : EM} {y : T} {ts : List T} {l u : OM} {lo hi : Option Int} {s : Sl} {h : Hq} {E : EX} {Q : TK} (hx : Ev s h E x y) (hl : ∀ R : Option Int → Hq → Prop, R lo h → l s h R E) (hu : ∀ R : Option Int → Hq → Prop, R hi h → u s h R E) (e : lsOf h y = some ts) {fl : Bool} (q : mk fl (cutT ts lo hi) h Q) : eSl fl x l u s h Q E := hx _ (hl _ (hu _ (by
  cases y <;> first
    | (cases e; done)
    | skip
  · cases e; exact q
  · dsimp only; rw [e]; exact q)))
theorem om_no {s : Sl} {h : Hq} {E : EX} {R : Option Int → Hq → Prop} (r : R none h) : mNo s h R E := r
theorem om_ev {x : EM} {i : Int} {s : Sl} {h : Hq} {E : EX} (hx : Ev s h E x (.int i)) {R : Option Int → Hq → Prop} (r : R (some i) h) : mPart x s h R E := hx _ r
theorem ev_cat {x y : EM} {xs ys : List T} {s : Sl} {h : Hq} {E : EX} (hx : Ev s h E x (.lst xs)) (hy : Ev s h E y (.lst ys)) (l : xs.length + ys.length ≤ lim) : Ev s h E (eOp (oAdd true) x y) (.lst (xs ++ ys)) := ev_op hx hy fun Q q => by
  show _ ∧ mk true _ h Q
  rw [mk_true]
  exact ⟨l, q⟩
theorem srt_go {x : EM} {ns : List Int} {s : Sl} {h : Hq} {E : EX} {Q : TK} (hx : Ev s h E x (.lst (ns.map .int))) (l : ns.length < 64) (q : ∀ ns' : List Int, ns'.Perm ns → ns'.Pairwise (· ≤ ·) → Q (.lst (ns'.map .int)) h) : eCB (oSrtI true) (aCons x aNil) s h Q E := hx _ (by
  show (match intsIn h (.lst (ns.map .int)) with | some ns => _ | none => False)
  rw [show intsIn h (.lst (ns.map .int)) = some ns from intsOf_map ns]
  exact ⟨l, fun ns' h1 h2 => by rw [mk_true]; exact q ns' h1 h2⟩)
theorem asg_to {N : SK} {rt : TK} {bk ct : SK} {ex : EX} {e : EM} {i : Nat} {v : T} {s : Sl} {h : Hq} (he : Ev s h ex e v) (q : N (s.set i (some v)) h) : sAsg e (gN i) { nx := N, rt := rt, bk := bk, ct := ct, ex := ex } s h := he _ q
theorem asg_tog {N : SK} {rt : TK} {bk ct : SK} {ex : EX} {e : EM} {i : Nat} {s : Sl} {h : Hq} (q : e s h (fun x h1 => N (s.set i (some x)) h1) ex) : sAsg e (gN i) { nx := N, rt := rt, bk := bk, ct := ct, ex := ex } s h := q
theorem if_to {N : SK} {rt : TK} {bk ct : SK} {ex : EX} {c : TM} {x : SM} {b : Bool} {s : Sl} {h : Hq} (hc : Ef s h ex b c) (q1 : b = true → x { nx := N, rt := rt, bk := bk, ct := ct, ex := ex } s h) (q2 : b = false → N s h) : sIf c x sNext { nx := N, rt := rt, bk := bk, ct := ct, ex := ex } s h := if_go hc q1 q2
theorem ev_isE {K : PySem.W.Frag} {ea C D : Addr} {ed : Option Addr} {gs : List (Str × T)} {x : EM} {b : Bool} {cl : Value} {s : Sl} {h : Hq} {E : EX} (hx : Ev s h E x (.exc ea cl ed gs)) (hC : ExcC K C) (hk : PySem.W.kitOne K (.ref C) (.ref D) = some b) : Ev s h E (eCB (oIsE K ea (.ref C) ed) (aCons x (aCons (eC (.ref D)) aNil))) (.bl b) := fun Q q => hx _ ⟨rfl, rfl, C, b, rfl, hC, hk, q⟩
theorem ev_xf {K : PySem.W.Frag} {ea C : Addr} {ed : Option Addr} {gs : List (Str × T)} {x : EM} {f : Str} {t : T} {cl : Value} {s : Sl} {h : Hq} {E : EX} (hx : Ev s h E x (.exc ea cl ed gs)) (hC : XfC K C) (hn : PySem.W.findIn K (.ref C) f = some none) (hl : gs.lookup f = some t) : Ev s h E (eXf K ea (.ref C) ed f x) t := fun Q q => ⟨C, hC, hn, rfl, hx _ ⟨rfl, rfl, by rw [hl]; exact q⟩⟩
theorem ex_try {K : PySem.W.Frag} {c : Value} {i : Nat} {ms : Addr → Value → Option Addr → SM} {D : En} {x : Ex} {s : Sl} {h : Hq} (hm : PySem.W.exmOne K x.cls c = some true) (q : ∀ a d, h a = none → ms a x.cls d { nx := fun s' h' => D.nx (s'.set i none) h', rt := D.rt, bk := fun s' h' => D.bk (s'.set i none) h', ct := fun s' h' => D.ct (s'.set i none) h' } (s.set i (some (.exc a x.cls d x.fs))) h) : exTry K c i ms D x s h := ⟨true, hm, fun _ => q, fun z => nomatch z⟩
theorem try_go {K : PySem.W.Frag} {c : Value} {i : Nat} {b : SM} {ms : Addr → Value → Option Addr → SM} {D : En} {s : Sl} {h : Hq} (q : b { nx := D.nx, rt := D.rt, bk := D.bk, ct := D.ct, ex := exTry K c i ms D } s h) : sTry K c i b ms D s h := q
theorem stry_go {K : PySem.W.Frag} {c : Value} {i : Nat} {b r : SM} {ms : Addr → Value → Option Addr → SM} {D : En} {s : Sl} {h : Hq} (q : b { nx := r D, rt := D.rt, bk := D.bk, ct := D.ct, ex := exTry K c i ms { D with nx := r D } } s h) : sSeq (sTry K c i b ms) r D s h := q
theorem new_go {s : Sl} {h : Hq} {E : EX} {Q : TK} (q : ∀ p, h p = none → Q (.ref p) (put h p (.lst []))) : eLst false aNil s h Q E := ⟨by decide, by rw [mk_false]; exact q⟩
theorem lst_go {s : Sl} {h : Hq} {E : EX} {Q : TK} {m : AM} {vs : List T} (hm : Ea s h E m vs) (l : vs.length ≤ lim) (q : ∀ p, h p = none → Q (.ref p) (put h p (.lst vs))) : eLst false m s h Q E := hm _ ⟨l, by rw [mk_false]; exact q⟩
theorem ret_go {e : EM} {D : En} {s : Sl} {h : Hq} (q : e s h D.rt D.ex) : sRet e D s h := q
theorem lkc (f : Str) (t : T) (r : List (Str × T)) : List.lookup f ((f, t) :: r) = some t := by simp [List.lookup]
theorem setg_go {e : EM} {g : GM} {r : SM} {D : En} {s : Sl} {h : Hq} (q : e s h (fun x h1 => g x s h1 (r D) D.ex) D.ex) : sSeq (sAsg e g) r D s h := q
theorem repr_S {x : Str} (h : (reprText x).length ≤ 1000000) : reprT (.str x) = some (reprText x) := if_pos h
theorem log_small {i : Int} (h : i.natAbs < 2 ^ 200) : i.natAbs.log2 < 1920 := by
  by_cases z : i.natAbs = 0
  · rw [z]; decide
  · exact Nat.lt_trans ((Nat.log2_lt z).mpr h) (by decide)
theorem repr_I {i : Int} (h : i.natAbs < 2 ^ 200) : reprT (.int i) = some ((toString i : String) : Str) := if_pos (log_small h)
theorem strOk_of (s : String) : PyData.strOk (s : Str) = true := by
  show PyData.strOk (Str.ofString s) = true
  rw [Str.ofString_eq_toList]
  unfold PyData.strOk
  rw [List.all_toArray, List.all_map, List.all_eq_true]
  intro c _
  refine decide_eq_true ?_
  have := c.valid
  rcases this with h | ⟨_, h⟩
  · show c.val.toNat < 1114112
    have h' : c.val.toNat < 55296 := h
    omega
  · show c.val.toNat < 1114112
    exact h
theorem pick {ts : List T} {r : Int} (r0 : 0 ≤ r) (r1 : r < ts.length) : ∃ t ∈ ts, atI ts r = some t := by
  obtain ⟨n, rfl⟩ : ∃ n : Nat, r = (n : Int) := ⟨r.toNat, by omega⟩
  have hn : n < ts.length := by omega
  exact ⟨ts[n], List.getElem_mem hn, atI_nat' (List.getElem?_eq_getElem hn)⟩
theorem pick_go {ts : List T} {i : Nat} {p : Addr} {n : Int} {s : Sl} {h : Hq} {E : EX} {Q : TK} (hi : s[i]? = some (some (.ref p))) (hp : h p = some .pool) (e : n = ts.length) (n0 : 0 < n) (n1 : n < 2 ^ 250) (q : ∀ t ∈ ts, Q t h) : eFrz (eCall 2 CDraw (aCons (eVar i) (aCons (eC (.int n)) aNil))) s h (fun y h2 => oIx (.lst ts) y h2 Q) E :=
  draw_go hi ev_c hp n0 n1 fun r r0 r1 => by
    obtain ⟨t, ht, ea⟩ := pick (ts := ts) r0 (by omega)
    show atK ts r h Q
    unfold atK
    rw [ea]
    exact q t ht
theorem pick_ev {x : EM} {ts : List T} {i : Nat} {p : Addr} {n : Int} {s : Sl} {h : Hq} {E : EX} {Q : TK} (hx : Ev s h E x (.lst ts)) (hi : s[i]? = some (some (.ref p))) (hp : h p = some .pool) (e : n = ts.length) (n0 : 0 < n) (n1 : n < 2 ^ 250) (q : ∀ t ∈ ts, Q t h) : eOp oIx x (eFrz (eCall 2 CDraw (aCons (eVar i) (aCons (eC (.int n)) aNil)))) s h Q E := hx _ (pick_go hi hp e n0 n1 q)
theorem lstT_go {m : AM} {s : Sl} {h : Hq} {E : EX} {Q : TK} (q : m s h (fun ts h1 => ts.length ≤ lim ∧ Q (.lst ts) h1) E) : eLst true m s h Q E := by
  show m s h (fun ts h1 => ts.length ≤ lim ∧ mk true ts h1 Q) E
  simp only [mk_true]
  exact q
theorem ev_chain {a b c : EM} {i j k : Int} {s : Sl} {h : Hq} {E : EX} (ha : Ev s h E a (.int i)) (hb : Ev s h E b (.int j)) (hc : Ev s h E c (.int k)) : Ev s h E (eChain oLe oLe a b c) (.bl (decide (i ≤ j) && decide (j ≤ k))) := fun Q q => ha _ (hb _ (by
  show (match (T.bl (decide (i ≤ j))) with | .bl true => _ | .bl false => _ | _ => False)
  by_cases d : i ≤ j
  · rw [decide_eq_true d] at q ⊢
    exact hc _ q
  · rw [decide_eq_false d] at q ⊢
    exact q))
theorem add_go {fl : Bool} {i j : Int} {h : Hq} {Q : TK} (q : Q (.int (i + j)) h) : oAdd fl (.int i) (.int j) h Q := q
theorem sub_go {i j : Int} {h : Hq} {Q : TK} (q : Q (.int (i - j)) h) : oSub (.int i) (.int j) h Q := q
theorem hand_go {i j : Nat} {ns : List Int} {k : Int} {s : Sl} {h : Hq} {E : EX} {Q : TK} (hi : s[i]? = some (some (.scr ns))) (hj : s[j]? = some (some (.int k))) (k0 : 0 ≤ k) (k1 : k ≤ 63) (hn : ns.length ≤ 63) (q : ∀ p, h p = none → Q (.ref p) (put h p .pool)) : eFrz (eCall 2 CHand (aCons (eVar i) (aCons (eVar j) aNil))) s h Q E :=
  calls (ea_cons (ev_var hi) (ea_cons (ev_var hj) ea_nil)) rfl ⟨ns, k, rfl, k0, k1, hn, fun p np => by
    unfold frzK
    dsimp only
    rw [put_same]
    exact q p np⟩
theorem cells_eq (ns : List Int) (m : Int) (h1 : 1 ≤ m) (h2 : m ≤ 63) {s : Sl} {h : Hq} {E : EX} {i : Nat} (hi : s[i]? = some (some (.scr ns))) : ∃ k : Nat, (k : Int) ≤ m ∧ Eq1 s h E (iRange1 (aCons (eCB oMax (aCons (eC (.int 1)) (aCons (eCB oMin (aCons (eCB oLen (aCons (eVar i) aNil)) (aCons (eC (.int m)) aNil))) aNil))) aNil)) (rng 0 k) := by
  obtain ⟨k, e, hk⟩ : ∃ k : Nat, (if (if m < (ns.length : Int) then m else (ns.length : Int)) > 1 then (if m < (ns.length : Int) then m else (ns.length : Int)) else 1) = (k : Int) ∧ (k : Int) ≤ m := ⟨(if (if m < (ns.length : Int) then m else (ns.length : Int)) > 1 then (if m < (ns.length : Int) then m else (ns.length : Int)) else 1).toNat, by split <;> split <;> omega, by split <;> split <;> omega⟩
  refine ⟨k, hk, eq_rng ?_ (by omega)⟩
  rw [← e]
  refine ev_max ev_c (ev_min ?_ ev_c)
  exact fun Q q => (ev_var hi : Ev s h E _ _) _ q
theorem put_old {h : Hq} {p b : Addr} {o u : O} (np : h p = none) (e : h b = some u) : put h p o b = some u := by rw [put_ne (fun z => by rw [z, np] at e; cases e)]; exact e
theorem setN {s : Sl} {i : Nat} {x : T} : s.set i (some x) = s.set i (some x) := rfl
end TL

set_option maxHeartbeats 1000000
namespace TL
open PySem PySem.Spec L2 PyProof.Rows
section
variable {X : Cx} {W : WX} {K : PySem.W.Frag} {C : Addr}
def fldAt (h : Hq) (C : Addr) (f : Str) (x : T) : Option (Addr × T) := match x with
  | .ref p => match h p with
    | some (.ins C' gs) => if C' = C then (gs.lookup f).map fun t => (p, t) else none
    | _ => none
  | _ => none
theorem RepF.lookV {S : Fz} {H : Hp} {f : Str} : ∀ {fs : List (Str × V)} {gs : List (Str × T)} {t : T}, RepF K S H fs gs → gs.lookup f = some t → ∃ v, fs.lookup f = some v ∧ Rep K S H v t := fun r e => r.look e
def sFldI (C : Addr) (f : Str) (g : Int → Int → Int) (mo mv : EM) : SM := fun D s h => mo s h (fun x h1 => match x with
  | .ref p => match h1 p with
    | some (.ins C' gs) => C' = C ∧ match gs.lookup f with
      | some (.int i) => mv s h1 (fun y h2 => match y with
        | .int j => h2 p = some (.ins C' gs) ∧ gs.length < 1000 ∧ D.nx s (put h2 p (.ins C' (putT f (.int (g i j)) gs)))
        | _ => False) D.ex
      | _ => False
    | _ => False
  | _ => False) D.ex
theorem js_fldaug {o e : Expr} {mo mv : EM} {f : Str} {op : Operator} {rd : V → V → Hp → VK → Prop} {g : Int → Int → Int} {pos tpos : Pos} (c : Cls X.K C) (n : NoAttr X.K C f) (hop : InOp X op rd) (hrd : ∀ i j H Q, Q (.int (g i j)) H → rd (.int i) (.int j) H Q) (ho : JE X W o mo) (hv : JE X W e mv) : JS X W (.AugAssign (.Attribute o f tpos) op e pos) (sFldI C f g mo mv) := PS.wk (ps_fldaug ho hv hop) fun D' σ H ⟨S, h, s, D, m, rs, lk, hm⟩ =>
  ⟨S, h, s, _, D.ex, m, rs, lk.ex, hm, fun S1 H1 h1 v x f1 m1 r1 q1 => by
    split at q1
    · split at q1
      · rename_i p _ C' gs e
        obtain ⟨rfl, q1⟩ := q1
        split at q1
        · rename_i i ei
          cases r1
          obtain ⟨u, e1, dx, fs, e2, rf⟩ := m1.ob p _ e
          subst e2
          obtain ⟨vi, evi, rvi⟩ := rf.look ei
          cases rvi
          refine ⟨p, C', dx, fs, _, rfl, e1, c, n, evi, S1, h1, s, _, D.ex, m1, rs.fut f1, lk.ex.fut f1, q1, fun S2 H2 h2 w y f2 m2 r2 q2 => ?_⟩
          split at q2
          · rename_i j
            cases r2
            obtain ⟨e3, l3, q2⟩ := q2
            obtain ⟨u', e1', dx', fs', e2', rf'⟩ := m2.ob p _ e3
            subst e2'
            refine hrd _ _ _ _ ⟨dx', fs', e1', by rw [rf'.length]; exact l3, ?_⟩
            have f3 : Fut S2 H2 S2 (upd H2 p (.ins C' dx' (putF f (.int (g i j)) fs'))) := fut_upd (m2.nS' e3)
            have f13 := (f1.trans f2).trans f3
            exact lk.nx S2 _ _ σ s f13 (m2.write (o' := .ins C' (putT f (.int (g i j)) gs)) e3 ⟨dx', _, rfl, RepF.put (.int _) rf'⟩) (rs.fut f13) q2
          · exact q2.elim
        · exact q1.elim
      · exact q1.elim
    · exact q1.elim⟩
theorem rd_add : ∀ i j H Q, Q (.int (i + j)) H → L2.rAdd (.int i) (.int j) H Q := fun i j H Q q => ⟨i, j, rfl, rfl, q⟩
theorem rd_sub : ∀ i j H Q, Q (.int (i - j)) H → L2.rSub (.int i) (.int j) H Q := fun i j H Q q => ⟨i, j, rfl, rfl, q⟩
def eOwnIx (C : Addr) (c : Con) (mo mi : EM) : EM := fun s h Q E => mo s h (fun x h1 => mi s h1 (fun y h2 => match insOf h2 x with
  | some (C', _) => C' = C ∧ c [x, y] h2 Q fun z h3 => E z s h3
  | none => False) E) E
theorem pe_ownIx {CX : CXT} {k : Nat} {f : Addr} {fd : FuncData} {ps : List Str} {sp : Sp} {E : L2.St → XK} {o i : Expr} {ta ti : TE} {pos : Pos} (hm : Meth X.K C "__getitem__" f) (hfn : PySem.W.fnIn X.K f = true) (F : FnOk X.prog X.w X.K X.mg X.base CX k f fd ps sp) (hr : Room (k + 1) X.A) (hb : Binds X.K fd ps []) (hx : ∀ σ, PassesAt CX X σ (E σ)) (ho : PE X o ta) (hi : PE X i ti)
    (hsl : ∀ a u, subscripted i true (.ref a) u = runValue (.builtin "lifetime.subscript" ⟨[.ref a, u], []⟩)) :
    PE X (.Subscript o i pos) (fun σ H Q => ta σ H fun x H1 => ti σ H1 fun y H2 => ∃ a dx fs, x = .ref a ∧ H2 a = some (.ins C dx fs) ∧ sp [.ref a, y] H2 Q (E σ)) := by
  refine ⟨fun pins s σ H Q I h => ?_⟩
  refine Subscript_ (thn (ho.run pins s σ H _ I h) fun u s1 ⟨x, H1, I1, rx, q1⟩ => thn (hi.run pins s1 σ H1 _ I1 q1) fun iv s2 ⟨y, H2, I2, ry, a, dx, fs, ex, ea, q2⟩ => ?_)
  subst ex
  obtain rfl : u = Value.ref a := rx
  obtain ⟨od, J⟩ := instAt I2 ea
  obtain ⟨mm, fr⟩ := I2.fr
  refine PySem.W.sub_K fr I2.ok.mod.kin J hm.at_ hfn hm.fn ?_ (hsl a iv)
  have r2 : Vals [.ref a, y] [.ref a, iv] := .cons rfl (.cons ry .nil)
  have hl : ([Value.ref a, iv]).length = ps.length := by rw [← r2.length]; exact F.len _ _ _ _ q2
  have b := hb s2 [.ref a, iv] I2.kIn (by rw [List.append_nil]; exact hl)
  rw [List.append_nil] at b
  refine wpAny_call (codeAny_mono (F.run X.A.in1 X.stack s2 H2 ⟨[.ref a, iv], []⟩ [.ref a, iv] [.ref a, y] Q (E σ) hr.in1 I2.env0.in1 b r2 q2) fun r s' hq => ?_)
  cases r with
  | error e => exact hx σ pins H2 s2 e s' I2 hq
  | ok fl =>
    cases fl with
    | ret u => exact I2.after hq
    | next => exact False.elim hq
    | brk => exact False.elim hq
    | cont => exact False.elim hq
theorem j_ownIx {CX : CXT} {k : Nat} {f : Addr} {fd : FuncData} {ps : List Str} {c : Con} {o i : Expr} {mo mi : EM} {pos : Pos} (hm : Meth X.K C "__getitem__" f) (hfn : PySem.W.fnIn X.K f = true) (F : FnOk X.prog X.w X.K X.mg X.base CX k f fd ps (liftSp X.K 2 c)) (hr : Room (k + 1) X.A) (hb : Binds X.K fd ps []) (hx : ∀ σ, PassesAt CX X σ (WE W σ)) (ho : JE X W o mo) (hi : JE X W i mi)
    (hsl : ∀ a u, subscripted i true (.ref a) u = runValue (.builtin "lifetime.subscript" ⟨[.ref a, u], []⟩) := by intros; rfl) :
    JE X W (.Subscript o i pos) (eOwnIx C c mo mi) := PE.wk (pe_ownIx (E := WE W) hm hfn F hr hb hx ho hi hsl) fun σ H Q' ⟨S, h, s, Q, E, m, rs, lk, hm, pk⟩ =>
  ⟨S, h, s, _, E, m, rs, lk, hm, fun S1 H1 h1 v x f1 m1 r1 q1 => ⟨S1, h1, s, _, E, m1, rs.fut f1, lk.fut f1, q1, fun S2 H2 h2 w y f2 m2 r2 q2 => by
    split at q2
    · rename_i C2 g2 e2
      obtain ⟨rfl, q2⟩ := q2
      obtain ⟨a, dx, fs, rfl, ea, _⟩ := insOf_ok m2 (r1.fut f2) e2
      exact ⟨a, dx, fs, rfl, ea, S2, h2, [x, y], Q, _, m2, .cons (r1.fut f2) (.cons r2 .nil), rfl, q2, pk.fut (f1.trans f2), fun S3 H3 h3 z cls d f3 m3 r3 q3 => lk S3 H3 h3 σ s z cls d ((f1.trans f2).trans f3) m3 (rs.fut ((f1.trans f2).trans f3)) r3 q3⟩
    · exact q2.elim⟩⟩
def rSumT (K : PySem.W.Frag) : List V → Hp → VK → Prop := fun vs H Q => ∃ (a : Addr) (ns : List Int), vs = [V.ref a] ∧ SqT K H a (ns.map V.int) ∧ Q (.int ns.sum) H
theorem cr_sumT (hc : X.calm = true) : CallR X (.builtin "sum") (rSumT X.K) := by
  intro pins s σ H vs us Q I r h
  obtain ⟨a, ns, rfl, hs, q⟩ := h
  obtain ⟨its, rv, hl0, _⟩ := I.tuple hs
  have hl : s.heap.IsTuple a its.toArray := hl0
  rw [Vals.ref1 r]
  have hi := rv.ints
  obtain ⟨xs, e⟩ := hi.allInts.items
  have hn : numsOf (intItems xs).toList = ns := by rw [← e]; exact hi.numsOf
  rw [nums_intItems] at hn
  rw [e] at hl
  have hlt : a < s.heap.objs.size := by obtain ⟨_, z, _⟩ := hl; exact Heap.lt_size z
  refine call_sum_walkG (wpAny_pyIter_tuple hl ⟨_, _, _, _, _, _, numAt xs, rfl, Walks.tuple (A := X.A.in1) (I.ok.hd hc) _ a (Nat.ne_of_lt hlt) (intItems xs), ⟨⟨_, Heap.get?_push_size _ rfl, rfl, rfl⟩, hl.push _⟩, fun b hb => ?_, fun _ _ => intItems_at, fun h' tk t' hk => ?_⟩)
  · show b < (s.heap.push _).objs.size
    rw [Heap.size_push]
    rcases List.mem_cons.mp hb with rfl | hb
    · exact Nat.lt_succ_self _
    · rcases List.mem_cons.mp hb with rfl | hb
      · exact Nat.lt_succ_of_lt hlt
      · cases hb
  · have : preSum (numAt xs) (intItems xs).size = ns.sum := by
      have e2 : (intItems xs).size = xs.size := by simp [intItems]
      rw [e2, preSum_eq, List.take_of_length_le (by simp), hn]
    rw [this]
    exact ⟨.int _, H, I.kept fun b o e => hk b o (fun z => by
      have e1 : b = s.heap.objs.size := by simpa using z
      exact absurd (Heap.lt_size e) (by rw [e1]; exact Nat.lt_irrefl _)) (Heap.get?_push_of_some _ e), ⟨_, rfl⟩, q⟩
def oSumA : RLT := fun xs h Q => match xs with
  | [.tup ts] => match intsOf ts with
    | some ns => Q (.int ns.sum) h
    | none => False
  | _ => False
theorem c_sumT : CP K (rSumT K) oSumA := fun S H h vs xs Q Q' m r q pk => by
  unfold oSumA at q
  split at q
  · cases r with
    | cons r1 rn =>
      cases rn
      split at q
      · rename_i ns e
        have e' := intsOf_ok e
        subst e'
        cases r1 with
        | tup s hh r =>
          rw [r.ints] at hh
          exact ⟨_, ns, rfl, SqT.of hh, pk S H h _ _ Fut.refl m (.int _) q⟩
        | tupK hh r =>
          rw [r.ints] at hh
          exact ⟨_, ns, rfl, .inr hh, pk S H h _ _ Fut.refl m (.int _) q⟩
      · exact q.elim
  · exact q.elim
def iTupS (a : EM) : IM := fun s h Q E => a s h (fun x h1 => match x with
  | .tup ts => Q ts (fun _ => True) h1
  | _ => False) E
theorem tup_it {S : Fz} {H : Hp} {a : Addr} {vs : List V} {ts : List T} (hl : ∀ S1 H1, Fu S H S1 H1 → SqT K H1 a vs) (r : ∀ S1 H1, Fu S H S1 H1 → RepL K S1 H1 vs ts) : ItRep K S H (Itt K a) ts (fun _ => True) := fun S1 H1 h1 f1 m1 st => by
  have q := hl S1 H1 f1
  have r1 := r S1 H1 f1
  refine ⟨fun i t e => ?_, ⟨vs, q, by rw [r1.length]; exact Nat.le_refl _⟩⟩
  obtain ⟨v, ev, rv⟩ := r1.get e
  refine ⟨⟨vs, v, q, ev⟩, fun x H2 y => ?_⟩
  obtain ⟨rfl, y⟩ := y
  have ex : x = v := Option.some.inj ((y vs q).symm.trans ev)
  subst ex
  exact ⟨S1, Fut.refl, m1, rv⟩
theorem ji_tup {tg e : Expr} {a : EM} (ha : JE X W e a) : JI X W tg e (iTupS a) := PI.wk (pi_tup ha) fun σ H R ⟨S, h, s, Q, E, m, rs, lk, hm, pk⟩ =>
  ⟨S, h, s, _, E, m, rs, lk, hm, fun S1 H1 h1 v x f1 m1 r1 q1 => by
    split at q1
    · cases r1 with
      | tup s hh r => exact ⟨_, rfl, ⟨_, SqT.of hh⟩, pk S1 H1 h1 _ _ _ f1 m1 (tup_it (fun S2 H2 f2 => SqT.of ((f2.kp _ s).trans hh)) fun S2 H2 f2 => r.fu f2) q1⟩
      | tupK hh r => exact ⟨_, rfl, ⟨_, .inr hh⟩, pk S1 H1 h1 _ _ _ f1 m1 (tup_it (fun S2 H2 f2 => .inr hh) fun S2 H2 f2 => r.fu f2) q1⟩
    · exact q1.elim⟩
def chrs (x : Str) : List T := x.cps.toList.map fun c => T.str ⟨#[c]⟩
def iStrS (a : EM) : IM := fun s h Q E => a s h (fun x h1 => match x with
  | .str z => Q (chrs z) (fun _ => True) h1
  | _ => False) E
theorem str_it {S : Fz} {H : Hp} {z : Str} : ItRep K S H (Its z) (chrs z) (fun _ => True) := fun S1 H1 h1 f1 m1 st => by
  refine ⟨fun i t e => ?_, ?_⟩
  · unfold chrs at e
    rw [List.getElem?_map] at e
    cases ec : z.cps.toList[i]? with
    | none => rw [ec] at e; cases e
    | some c =>
      rw [ec] at e
      cases e
      have hi : i < z.cps.size := by
        have := (List.getElem?_eq_some_iff.mp ec).1
        simpa using this
      refine ⟨hi, fun x H2 y => ?_⟩
      obtain ⟨rfl, c', hc, rfl⟩ := y
      have : c' = c := by
        rw [Array.getElem?_toList] at ec
        rw [hc] at ec
        exact Option.some.inj ec
      subst this
      exact ⟨S1, Fut.refl, m1, .str _⟩
  · show z.cps.size ≤ (chrs z).length
    unfold chrs
    simp
theorem ji_str {tg e : Expr} {a : EM} (ha : JE X W e a) : JI X W tg e (iStrS a) := PI.wk (pi_str ha) fun σ H R ⟨S, h, s, Q, E, m, rs, lk, hm, pk⟩ =>
  ⟨S, h, s, _, E, m, rs, lk, hm, fun S1 H1 h1 v x f1 m1 r1 q1 => by
    split at q1
    · cases r1
      exact ⟨_, rfl, pk S1 H1 h1 _ _ _ f1 m1 str_it q1⟩
    · exact q1.elim⟩
theorem kv_vals : ∀ {kvs : List (Key × V)} {vs : List (Key × Value)}, KV kvs vs → Vals (kvs.map (·.2)) (vs.map (·.2))
  | _, _, .nil => .nil
  | _, _, .cons h t => .cons h.2 (kv_vals t)
def tListVals (te : TE) : TE := fun σ H Q => te σ H fun x H1 => ∃ (d : Addr) (kvs : List (Key × V)), x = .ref d ∧ H1 d = some (.dK kvs) ∧ ∀ p, H1 p = none → Q (.ref p) (upd H1 p (.lst (kvs.map (·.2))))
def eListV (fl : Bool) (m : EM) : EM := fun s h Q E => m s h (fun x h1 => match x with
  | .ref d => match h1 d with
    | some (.dK gs) => mk fl (gs.map (·.2)) h1 Q
    | _ => False
  | _ => False) E
theorem pe_listVals {e : Expr} {te : TE} {p apos cpos pos : Pos} (hc : X.calm = true) (he : PE X e te) (hg : Gl X "list") (hm : X.mg "list" = none) (hv : bootBuiltins "list" = some (.type "list")) (hbase : attributeBase e "values" X.env (eval e X.env) = eval e X.env) (hline : (apos.endLine == cpos.line) = true)
    (hs : starEach [.Call (.Attribute e "values" apos) [] [] cpos] X.env = (false, eval (.Call (.Attribute e "values" apos) [] [] cpos) X.env) :: starEach [] X.env) :
    PE X (.Call (.Name "list" p) [.Call (.Attribute e "values" apos) [] [] cpos] [] pos) (tListVals te) := by
  refine ⟨fun pins s σ H Q I hq => ?_⟩
  refine wpAny_Call_Name_kw (ld_blt I hg hm hv ?_)
  refine PyProof.Rows.callWith_type1 ?_ hs rfl
  rw [hs]
  refine Calls.spliced_cons ?_
  refine wpAny_Call_method (T := "dict") (id := "dict.values") hbase rfl hline F.plainAttrs_dict F.slot_dict_values F.type_dict_values (thn (he.run pins s σ H _ I hq) fun u s1 ⟨x, H1, I1, rx, d, kvs, ex, hd, q⟩ => ?_)
  subst ex
  obtain rfl : u = Value.ref d := rx
  obtain ⟨hz, hs0, vs, kv, hdo⟩ := I1.hok d _ hd
  obtain ⟨ep, hat⟩ := hdo.dictAt
  have lk : kvs.length = vs.length := Paired.length kv
  have I2 : Inv X pins σ H1 { s1 with heap := s1.heap.push { cls := .type "dict_values", data := .fields #[.ref d] } } := I1.kept (t' := s1.toks) fun b ob q => Heap.get?_push_of_some _ q
  refine ⟨hdo.typeIs, hdo.mapOf.noDict, ?_⟩
  refine method_meetsIn F.slot_dict_values F.entry_dict_values rfl (PySem.evalArgs_none ⟨rfl, hdo.typeIs, F.args_dict_values_1 _, _, meets_dict_values (mixKind X.prog X.w) d hs0, ⟨vs, hdo⟩, ?_⟩)
  refine Calls.spliced_nil ?_
  refine PySem.W.kdl_call (PySem.W.kdl_values (knd := mixKind X.prog X.w) (kvs := vs) (ep := ep) (d := d)) (I1.ok.hd hc) ⟨⟨_, Heap.get?_push_size _ rfl, rfl, rfl⟩, hat.push _⟩ (by omega) fun h' tk acc c hk hS hacc => ?_
  have ea : acc.toList = vs.map (·.2) := PySem.W.kdl_vals_eq acc.toList (by rw [Array.length_toList]; exact hacc.1) fun j v e => hacc.2 j v (by rw [← Array.getElem?_toList]; exact e)
  have hlen : (kvs.map (·.2)).length ≤ sizeLine := by rw [List.length_map]; exact hz
  exact ⟨.ref _, upd H1 _ (.lst (kvs.map (·.2))), I2.laid (o := .lst (kvs.map (·.2))) (t' := tk) hk (Nat.le_refl _) ⟨hlen, acc.toList, c, by rw [ea]; exact kv_vals kv, by rw [Array.toArray_toList]; exact hS⟩, rfl, q _ (I2.hok.fresh (Nat.le_refl _))⟩
theorem j_listVals (fl : Bool) {e : Expr} {m : EM} {p apos cpos pos : Pos} (hc : X.calm = true) (hg : Gl X "list") (hm : X.mg "list" = none) (he : JE X W e m) (hv : bootBuiltins "list" = some (.type "list") := by decide +kernel) (hbase : attributeBase e "values" X.env (eval e X.env) = eval e X.env := by rfl) (hline : (apos.endLine == cpos.line) = true := by rfl)
    (hs : starEach [.Call (.Attribute e "values" apos) [] [] cpos] X.env = (false, eval (.Call (.Attribute e "values" apos) [] [] cpos) X.env) :: starEach [] X.env := by rfl) :
    JE X W (.Call (.Name "list" p) [.Call (.Attribute e "values" apos) [] [] cpos] [] pos) (eListV fl m) := PE.wk (pe_listVals hc he hg hm hv hbase hline hs) fun σ H Q' ⟨S, h, s, Q, E, mm, rs, lk, hm, pk⟩ =>
  ⟨S, h, s, _, E, mm, rs, lk, hm, fun S1 H1 h1 v x f1 m1 r1 q1 => by
    split at q1
    · split at q1
      · rename_i d _ gs e
        cases r1
        obtain ⟨u, e1, kvs, e2, r2⟩ := m1.ob d _ e
        subst e2
        refine ⟨d, kvs, rfl, e1, ?_⟩
        exact mk_ok m1 r2.2 q1 (pk.fut f1)
      · exact q1.elim
    · exact q1.elim⟩
def zipT (xs ys : List T) : List T := (xs.zip ys).map fun p => T.tup [p.1, p.2]
def iZipS (a : AM) : IM := fun s h Q E => a s h (fun xs h1 => match xs with
  | [.lst ts, .lst us] => Q (zipT ts us) (fun _ => True) h1
  | _ => False) E
theorem zip_it {S : Fz} {H : Hp} {a b : Addr} {vs ws : List V} {ts us : List T} (h1 : ∀ S1 H1, Fu S H S1 H1 → SqL K H1 a vs ∧ RepL K S1 H1 vs ts) (h2 : ∀ S1 H1, Fu S H S1 H1 → SqL K H1 b ws ∧ RepL K S1 H1 ws us) : ItRep K S H (Itz K a b) (zipT ts us) (fun _ => True) := fun S1 H1 hh f1 m1 st => by
  obtain ⟨q1, r1⟩ := h1 S1 H1 f1
  obtain ⟨q2, r2⟩ := h2 S1 H1 f1
  have ln : (zipT ts us).length = min ts.length us.length := by unfold zipT; simp
  refine ⟨fun i t e => ?_, ⟨vs, ws, q1, q2, ?_⟩⟩
  · unfold zipT at e
    rw [List.getElem?_map] at e
    cases ez : (ts.zip us)[i]? with
    | none => rw [ez] at e; cases e
    | some p =>
      rw [ez] at e
      cases e
      have ez' := List.getElem?_zip_eq_some.mp ez
      obtain ⟨v, ev, rv⟩ := r1.get ez'.1
      obtain ⟨w, ew, rw'⟩ := r2.get ez'.2
      refine ⟨⟨vs, ws, v, w, q1, q2, ev, ew⟩, fun x H2 y => ?_⟩
      obtain ⟨TT, x', y', rfl, nT, rfl, e1, e2⟩ := y
      have ex : x' = v := Option.some.inj ((e1 vs q1).symm.trans ev)
      have ey : y' = w := Option.some.inj ((e2 ws q2).symm.trans ew)
      subst ex ey
      obtain ⟨m2, f2⟩ := m1.frozen (u := .tup [x', y']) nT
      exact ⟨_, f2, m2, .tup (.inr rfl) upd_same (.cons (rv.fut f2) (.cons (rw'.fut f2) .nil))⟩
  · rw [ln, r1.length, r2.length]
    by_cases c : ts.length ≤ us.length
    · exact .inl (by rw [Nat.min_eq_left c]; exact Nat.le_refl _)
    · exact .inr (by rw [Nat.min_eq_right (by omega)]; exact Nat.le_refl _)
theorem ji_zip {elts : List Expr} {kk : Nat} {tpos : Pos} {e e2 : Expr} {a : AM} {p pos : Pos} (hg : Gl X "zip") (hm : X.mg "zip" = none) (ha : JA X W [e, e2] a) (hs : starEach [e, e2] X.env = (false, eval e X.env) :: starEach [e2] X.env := by rfl) (hpl : (backTo pos (starEach [e2] X.env)).any (·.1) = false := by rfl) : JI X W (.Tuple elts kk tpos) (.Call (.Name "zip" p) [e, e2] [] pos) (iZipS a) := PI.wk (pi_zip hg hm ha hs hpl) fun σ H R ⟨S, h, s, Q, E, m, rs, lk, hm, pk⟩ =>
  ⟨S, h, s, _, E, m, rs, lk, hm, fun S1 H1 h1 vs ts f1 m1 r1 q1 => by
    split at q1
    · cases r1 with
      | cons ra rn =>
        cases rn with
        | cons rb rn =>
          cases rn
          cases ra with
          | lst s1 hh1 rr1 =>
            cases rb with
            | lst s2 hh2 rr2 =>
              exact ⟨_, _, _, _, rfl, SqL.of hh1, SqL.of hh2, pk S1 H1 h1 _ _ _ f1 m1 (zip_it (fun S2 H2 f2 => ⟨SqL.of ((f2.kp _ s1).trans hh1), rr1.fu f2⟩) fun S2 H2 f2 => ⟨SqL.of ((f2.kp _ s2).trans hh2), rr2.fu f2⟩) q1⟩
    · exact q1.elim⟩
def oInCh : R2T := fun x y h Q => ∃ c z, x = .str ⟨#[c]⟩ ∧ y = .str z ∧ Q (.bl (decide (c ∈ z.cps.toList))) h
theorem p_inCh : OP K (fun x y H Q => ∃ (c : Nat) (z : Str), x = .str ⟨#[c]⟩ ∧ y = .str z ∧ Q (.bl (decide (c ∈ z.cps.toList))) H) oInCh := fun S H h v w x y Q Q' m r1 r2 q pk => by
  obtain ⟨c, z, rfl, rfl, q⟩ := q
  cases r1
  cases r2
  exact ⟨c, z, rfl, rfl, pk S H h _ _ Fut.refl m (.bl _) q⟩
end
def spInit2 (C : Addr) (f g : Str) : Sp := fun vs H Q _ => ∃ a y z, vs = [.ref a, y, z] ∧ H a = some (exo a C none) ∧ ∀ dx, H dx = none → dx ≠ a → Q .non (upd (upd (upd H dx (exd dx [(f, y)])) a (exo a C (some dx))) dx (exd dx [(g, z), (f, y)]))
theorem init_ok2 {P : Program} {w : World} {K : PySem.W.Frag} {mg : Str → Option Value} {base : Heap} {qual : Str} {st : Stmt} {fI C : Addr} {fd : FuncData} {y z f g : Str} {p1 p2 p3 p4 q1 q2 q3 q4 : Pos} (F : Fun K "__init__" qual st fI fd) (sc : FnScope ["self", y, z] ["self", y, z] (defScope st)) (T : OexC K C) (hno : PySem.W.findIn K (.ref C) f = some none) (hno2 : PySem.W.findIn K (.ref C) g = some none)
    (hb : defBody st = [.Assign [.Attribute (.Name "self" p1) f p2] (.Name y p3) p4, .Assign [.Attribute (.Name "self" q1) g q2] (.Name z q3) q4])
    (h0 : Vis (defScope st) "self") (h1 : Vis (defScope st) y) (h2 : Vis (defScope st) z) (hd : (y == ("__debug__" : Str)) = false) (hcd : (y == ("__classdict__" : Str)) = false) (hd2 : (z == ("__debug__" : Str)) = false) (hcd2 : (z == ("__classdict__" : Str)) = false)
    (hs : ∀ env, env.scope = defScope st → swapsWith (.Name y p3) (some (.Attribute (.Name "self" p1) f p2)) p4.line env = pure false) (hs2 : ∀ env, env.scope = defScope st → swapsWith (.Name z q3) (some (.Attribute (.Name "self" q1) g q2)) q4.line env = pure false) : FnOk P w K mg base (L2.CX P w) 1 fI fd ["self", y, z] (spInit2 C f g) := by
  refine F.okX (k := 0) sc (fun vs H Q E ⟨a, v, u, e, _⟩ => by rw [e]; rfl) fun cdv A outer s H vs Q E hr ⟨a, v, u, e, ha, q⟩ => ⟨_, by rw [hb]; exact pss_cons (ps_ost (pe_var (i := 0) rfl h0) (pe_var (i := 1) rfl h1 hd hcd) (hs _ rfl)) (pss_one (ps_ost (pe_var (i := 0) rfl h0) (pe_var (i := 2) rfl h2 hd2 hcd2) (hs2 _ rfl))), ?_⟩
  subst e
  refine ⟨v, rfl, .ref a, rfl, a, C, rfl, T, hno, .inl ⟨ha, fun dx n ne => ?_⟩⟩
  refine ⟨u, rfl, .ref a, rfl, a, C, rfl, T, hno2, .inr ⟨dx, [(f, v)], upd_same, ?_, Nat.le_of_ble_eq_true rfl, q dx n ne⟩⟩
  rw [upd_ne ne, upd_same]
def sRaise2 (C : Addr) (f g : Str) (a : AM) : SM := fun D s h => a s h (fun ts h1 => match ts with
  | [t, u] => D.ex ⟨.ref C, [(g, u), (f, t)]⟩ s h1
  | _ => False) D.ex
section
variable {X : Cx} {W : WX}
theorem js_raise2 {x f g y z : Str} {C fI : Addr} {fd : FuncData} {e : Expr} {es : List Expr} {a : AM} {p pos pos' : Pos} (T : OexC X.K C) (iC : PySem.W.findIn X.K (.ref C) "__init__" = some (some (.ref fI))) (tI : PySem.W.typeIn X.K (.ref fI) = some (.type "function"))
    (F1 : FnOk X.prog X.w X.K X.mg X.base (L2.CX X.prog X.w) 1 fI fd ["self", y, z] (spInit2 C f g)) (hb : Binds X.K fd ["self", y, z] []) (hr : Room 2 X.A) (hc : X.calm = true) (tk : Takes X W) (hg : Gl X x) (hm : X.mg x = some (.ref C)) (ha : JA X W (e :: es) a)
    (hdb : (x == ("__debug__" : Str)) = false := by decide) (he : starEach (e :: es) X.env = (false, eval e X.env) :: starEach es X.env := by rfl) (hpl : (backTo pos (starEach es X.env)).any (·.1) = false := by rfl) :
    JS X W (.Raise (some (.Call (.Name x p) (e :: es) [] pos)) none pos') (sRaise2 C f g a) := PS.wk (ps_raise hc tk (pmk_oex T iC tI F1 hr hb .nil noPass hg hm ha hdb he hpl)) fun D' σ H ⟨S, h, s, D, m, rs, lk, hm⟩ => by
  refine ⟨S, h, s, _, D.ex, m, rs, lk.ex, hm, fun S1 H1 h1 vs ts f1 m1 r1 q1 => ?_⟩
  split at q1
  · cases r1 with
    | @cons v _ t _ r rn =>
      cases rn with
      | @cons v2 _ t2 _ r2 rn =>
        cases rn
        refine ⟨by simp, fun a na => ⟨a, v, v2, rfl, upd_same, fun dx ndx ne => ⟨rfl, dx, [(g, v2), (f, v)], ?_, upd_same, ?_, ?_⟩⟩⟩
        · rw [upd_ne (Ne.symm ne), upd_same]
        · rw [upd_ne ne] at ndx; exact ndx
        · rw [upd_ne ne] at ndx
          have e1 : upd (L2.del (upd (upd (upd (upd H1 a (exo a C none)) dx (exd dx [(f, v)])) a (exo a C (some dx))) dx (exd dx [(g, v2), (f, v)])) a) dx (.xd [(g, v2), (f, v)]) = upd H1 dx (.xd [(g, v2), (f, v)]) := by
            funext b
            by_cases c : b = dx
            · rw [c, upd_same, upd_same]
            · rw [upd_ne c, upd_ne c]
              by_cases c2 : b = a
              · rw [c2, L2.del_same, na]
              · rw [L2.del_ne c2, upd_ne c, upd_ne c2, upd_ne c, upd_ne c2]
          rw [e1]
          obtain ⟨m2, f2⟩ := m1.frozen (u := .xd [(g, v2), (f, v)]) ndx
          exact lk.ex _ _ h1 σ s ⟨.ref C, [(g, _), (f, _)]⟩ _ _ (f1.trans f2) m2 (rs.fut (f1.trans f2)) ⟨rfl, .inr ⟨dx, [(g, v2), (f, v)], rfl, .inr rfl, upd_same, .cons (r2.fut f2) (.cons (r.fut f2) .nil)⟩⟩ q1
  · exact q1.elim
theorem pe_ownF {C B : Addr} {CX : CXT} {k : Nat} {fn : Addr} {fd : FuncData} {ps : List Str} {sp : Sp} {E : L2.St → XK} {f : Str} {o e : Expr} {es : List Expr} {ta : TE} {t : TA} {apos pos : Pos} {pl : Sem Bool} (c : Cls X.K C) (n : NoAttr X.K C f) (hm : Meth X.K B "__call__" fn) (hfn : PySem.W.fnIn X.K fn = true) (F : FnOk X.prog X.w X.K X.mg X.base CX k fn fd ps sp) (hr : Room k X.A) (hb : Binds X.K fd ps []) (hx : ∀ σ, PassesAt CX X σ (E σ)) (ho : PE X o ta) (ha : PA X (e :: es) t)
    (he : starEach (e :: es) X.env = (false, eval e X.env) :: starEach es X.env) (hpl : (backTo pos (starEach es X.env)).any (·.1) = false)
    (ht : eval (.Call (.Attribute o f apos) (e :: es) [] pos) X.env = (do
      let ov ← eval o X.env
      standAt apos.atName
      let (f, first) ← holding [ov] (getMethod ov f pl)
      callWith pos f first (backTo pos (starEach (e :: es) X.env)) (backToKw pos (keywordEach [] X.env)))) :
    PE X (.Call (.Attribute o f apos) (e :: es) [] pos) (fun σ H Q => ta σ H fun x H1 => ∃ a dx fs b, x = .ref a ∧ H1 a = some (.ins C dx fs) ∧ fs.lookup f = some (.ref b) ∧ t σ H1 fun vs H2 => ∃ dy gs, H2 b = some (.ins B dy gs) ∧ sp (.ref b :: vs) H2 Q (E σ)) := ⟨fun pins s σ H Q I h => by
  refine PySem.W.methodCall_KW (pl := pl) (thn (ho.run pins s σ H _ I h) fun u s1 ⟨x, H1, I1, rx, a, dx, fs, b, ex, ea, l, q⟩ => ?_) ht
  subst ex
  obtain rfl : u = Value.ref a := rx
  obtain ⟨od, J⟩ := instAt I1 ea
  refine PySem.W.method_usual I1.kIn J (PySem.W.plainGet_of (c.get f)).1 (PySem.W.plainGet_of (c.get f)).2 n rfl (getattr_ok I1 ea c n l fun u s2 I2 ru => ?_)
  obtain rfl : u = Value.ref b := ru
  have z := thn (ha.run pos pins s2 σ H1 _ I2 q) (Q' := fun us s3 => (∃ ox od, PySem.W.InstAt s3.heap b ox B od ∧ ox.data = .plain) ∧ wpAny (model X.prog X.w) X.A (call (.ref b) ([] ++ us)) (EP X pins σ Q) X.xe s3) fun us s3 ⟨vs, H2, I3, r, dy, gs, eb, q2⟩ => by
    obtain ⟨od, J⟩ := instAt I3 eb
    exact ⟨⟨_, _, J, rfl⟩, run_own hm hfn F hr hb (hx σ) I3 eb r q2⟩
  rw [he] at z ⊢
  exact callWith_inst (by show ((false || (backTo pos (starEach es X.env)).any (·.1)) || false) = false; rw [hpl]; rfl) (PySem.Calls.evalArgs_plain z)⟩
theorem j_ownCallF {C B : Addr} {CX : CXT} {k n : Nat} {fn : Addr} {fd : FuncData} {ps : List Str} {c : TL.Con} {f : Str} {o e : Expr} {es : List Expr} {mo : EM} {ma : AM} {apos pos : Pos} {pl : Sem Bool} (cl : Cls X.K C) (na : NoAttr X.K C f) (hm : Meth X.K B "__call__" fn) (hfn : PySem.W.fnIn X.K fn = true) (F : FnOk X.prog X.w X.K X.mg X.base CX k fn fd ps (liftSp X.K n c)) (hr : Room k X.A) (hb : Binds X.K fd ps []) (hx : ∀ σ, PassesAt CX X σ (WE W σ)) (ho : JE X W o mo) (ha : JA X W (e :: es) ma)
    (he : starEach (e :: es) X.env = (false, eval e X.env) :: starEach es X.env := by rfl) (hpl : (backTo pos (starEach es X.env)).any (·.1) = false := by rfl)
    (ht : eval (.Call (.Attribute o f apos) (e :: es) [] pos) X.env = (do
      let ov ← eval o X.env
      standAt apos.atName
      let (f, first) ← holding [ov] (getMethod ov f pl)
      callWith pos f first (backTo pos (starEach (e :: es) X.env)) (backToKw pos (keywordEach [] X.env))) := by rfl) :
    JE X W (.Call (.Attribute o f apos) (e :: es) [] pos) (eOwnCall B n c (eFld C f mo) ma) := PE.wk (pe_ownF (E := WE W) cl na hm hfn F hr hb hx ho ha he hpl ht) fun σ H Q' ⟨S, h, s, Q, E, m, rs, lk, hm, pk⟩ =>
  ⟨S, h, s, _, E, m, rs, lk, hm, fun S1 H1 h1 v x f1 m1 r1 q1 => by
    split at q1
    · rename_i C' gs e
      obtain ⟨rfl, q1⟩ := q1
      split at q1
      · rename_i y ey
        obtain ⟨i1, q1⟩ := q1
        obtain ⟨a, dx, fs, rfl, ea, rf⟩ := insOf_ok m1 r1 e
        obtain ⟨vy, evy, ry⟩ := rf.look ey
        obtain ⟨⟨C1, g1⟩, e1⟩ := Option.isSome_iff_exists.mp i1
        obtain ⟨b, dy, gy, rfl, eb, _⟩ := insOf_ok m1 ry e1
        refine ⟨a, dx, fs, b, rfl, ea, evy, S1, h1, s, _, E, m1, rs.fut f1, lk.fut f1, q1, fun S2 H2 h2 vs ts f2 m2 r2 q2 => ?_⟩
        split at q2
        · rename_i C2 g2 e2
          obtain ⟨rfl, l2, q2⟩ := q2
          obtain ⟨a', dx', fs', ev, ea', _⟩ := insOf_ok m2 (ry.fut f2) e2
          cases ev
          exact ⟨dx', fs', ea', S2, h2, y :: ts, Q, _, m2, .cons (ry.fut f2) r2, l2, q2, pk.fut (f1.trans f2), fun S3 H3 h3 y cls d f3 m3 r3 q3 => lk S3 H3 h3 σ s y cls d ((f1.trans f2).trans f3) m3 (rs.fut ((f1.trans f2).trans f3)) r3 q3⟩
        · exact q2.elim
      · exact q1.elim
    · exact q1.elim⟩
end
end TL

set_option maxHeartbeats 1000000
namespace TL
open PySem L2
section
variable {s : Sl} {h : Hq} {E : EX} {C : Addr} {f : Str}
theorem ev_fld {m : EM} {x t : T} {gs : List (Str × T)} (hx : Ev s h E m x) (hi : insOf h x = some (C, gs)) (hl : gs.lookup f = some t) : Ev s h E (eFld C f m) t := fun Q q => hx _ (by
  try dsimp only
  rw [hi]
  refine ⟨rfl, ?_⟩
  try dsimp only
  rw [hl]
  exact q)
theorem ins_ref {p : Addr} {gs : List (Str × T)} (hp : h p = some (.ins C gs)) : insOf h (.ref p) = some (C, gs) := by unfold insOf; dsimp only; rw [hp]
theorem ev_fldR {m : EM} {p : Addr} {t : T} {gs : List (Str × T)} (hx : Ev s h E m (.ref p)) (hp : h p = some (.ins C gs)) (hl : gs.lookup f = some t) : Ev s h E (eFld C f m) t := ev_fld hx (ins_ref hp) hl
theorem ev_sumA {m : EM} {ts : List T} {ns : List Int} (hx : Ev s h E m (.tup ts)) (e : intsOf ts = some ns) : Ev s h E (eCB oSumA (aCons m aNil)) (.int ns.sum) := fun Q q => hx _ (by
  show (match intsOf ts with | some ns => _ | none => False)
  rw [e]
  exact q)
theorem ev_sumL {m : EM} {ns : List Int} (hx : Ev s h E m (.lst (ns.map .int))) : Ev s h E (eCB oSumL (aCons m aNil)) (.int ns.sum) := fun Q q => hx _ (by
  show (match intsIn h (.lst (ns.map .int)) with | some ns => _ | none => False)
  rw [show intsIn h (.lst (ns.map .int)) = some ns from intsOf_map ns]
  exact q)
theorem ownIx_go {c : Con} {mo mi : EM} {x y : T} {gs : List (Str × T)} {Q : TK} (hx : Ev s h E mo x) (hy : Ev s h E mi y) (hi : insOf h x = some (C, gs)) (q : c [x, y] h Q fun z h3 => E z s h3) : eOwnIx C c mo mi s h Q E := hx _ (hy _ (by
  try dsimp only
  rw [hi]
  exact ⟨rfl, q⟩))
theorem meth_go {nm : Str} {n : Nat} {c : Con} {mo : EM} {ma : AM} {x : T} {vs : List T} {gs : List (Str × T)} {Q : TK} (hx : Ev s h E mo x) (hi : insOf h x = some (C, gs)) (hn : gs.lookup nm = none) (hm : Ea s h E ma vs) (hl : vs.length + 1 = n) (q : c (x :: vs) h Q fun z h3 => E z s h3) : eMeth C nm n c mo ma s h Q E := hx _ (by
  try dsimp only
  rw [hi]
  exact ⟨rfl, hn, hm _ ⟨hl, q⟩⟩)
theorem methF_go {nm : Str} {n : Nat} {c : Con} {mo : EM} {ma : AM} {x : T} {vs : List T} {gs : List (Str × T)} {Q : TK} (hx : Ev s h E mo x) (hi : insOf h x = some (C, gs)) (hn : gs.lookup nm = none) (hm : Ea s h E ma vs) (hl : vs.length + 1 = n) (q : c (x :: vs) h (frzK Q) fun z h3 => E z s h3) : eFrz (eMeth C nm n c mo ma) s h Q E := meth_go hx hi hn hm hl q
theorem ownCall_go {n : Nat} {c : Con} {mo : EM} {ma : AM} {x : T} {vs : List T} {gs : List (Str × T)} {Q : TK} (hx : Ev s h E mo x) (hi : insOf h x = some (C, gs)) (hm : Ea s h E ma vs) (hl : vs.length + 1 = n) (q : c (x :: vs) h (frzK Q) fun z h3 => E z s h3) : eFrz (eOwnCall C n c mo ma) s h Q E := hx _ ⟨by rw [hi]; rfl, hm _ (by
  try dsimp only
  rw [hi]
  exact ⟨rfl, hl, q⟩)⟩
theorem ef_own {c : Con} {m : EM} {x : T} {gs : List (Str × T)} {b : Bool} (hx : Ev s h E m x) (hi : insOf h x = some (C, gs)) (q : ∀ Q : TK, Q (.bl b) h → c [x] h Q fun _ _ => False) : Ef s h E b (tOwn C c m) := fun Q qq => hx _ (by
  try dsimp only
  rw [hi]
  exact ⟨rfl, q _ qq⟩)
theorem ev_din {neg : Bool} {ma mb : EM} {y : T} {p : Addr} {gs : List (Key × T)} {k : Key} (hy : Ev s h E ma y) (hx : Ev s h E mb (.ref p)) (hp : h p = some (.dK gs)) (hk : keyT y = some k) : Ev s h E (eDIn neg ma mb) (.bl (xor neg (valT gs k).isSome)) := fun Q q => hy _ (hx _ (by
  dsimp only
  rw [hp]
  show (match keyT y with | some k => _ | none => False)
  rw [hk]
  exact q))
theorem ev_dget {ma mb : EM} {y t : T} {p : Addr} {gs : List (Key × T)} {k : Key} (hx : Ev s h E ma (.ref p)) (hy : Ev s h E mb y) (hp : h p = some (.dK gs)) (hk : keyT y = some k) (hv : valT gs k = some t) : Ev s h E (eDGet ma mb) t := fun Q q => hx _ (hy _ (by
  dsimp only
  rw [hp]
  show (match keyT y with | some k => (match valT gs k with | some t => _ | none => False) | none => False)
  rw [hk]
  dsimp only
  rw [hv]
  exact q))
theorem eq_str {m : EM} {z : Str} (hx : Ev s h E m (.str z)) : Eq1 s h E (iStrS m) (chrs z) := fun Q q => hx _ q
theorem eq_tup {m : EM} {ts : List T} (hx : Ev s h E m (.tup ts)) : Eq1 s h E (iTupS m) ts := fun Q q => hx _ q
theorem eq_zip {m n : EM} {ts us : List T} (hx : Ev s h E m (.lst ts)) (hy : Ev s h E n (.lst us)) : Eq1 s h E (iZipS (aCons m (aCons n aNil))) (zipT ts us) := fun Q q => hx _ (hy _ q)
theorem eq_vals {m : EM} {d : Addr} {gs : List (Key × T)} (hx : Ev s h E m (.ref d)) (hd : h d = some (.dK gs)) : Eq1 s h E (iSeq (eListV true m)) (gs.map (·.2)) := fun Q q => hx _ (by
  dsimp only
  rw [hd]
  show mk true _ h _
  rw [mk_true]
  exact q)
end
section
variable {s : Sl} {h : Hq} {C : Addr} {f : Str} {D : En} {r : SM} {mo mv : EM} {p : Addr} {gs : List (Str × T)}
theorem fldI_go {g : Int → Int → Int} {i j : Int} (hx : Ev s h D.ex mo (.ref p)) (hp : h p = some (.ins C gs)) (hl : gs.lookup f = some (.int i)) (hy : Ev s h D.ex mv (.int j)) (l : gs.length < 1000) (q : r D s (put h p (.ins C (putT f (.int (g i j)) gs)))) : sSeq (sFldI C f g mo mv) r D s h := hx _ (by
  try dsimp only
  rw [hp]
  refine ⟨rfl, ?_⟩
  try dsimp only
  rw [hl]
  exact hy _ ⟨hp, l, q⟩)
theorem fldT_go {y : T} (hy : Ev s h D.ex mv y) (hx : Ev s h D.ex mo (.ref p)) (hp : h p = some (.ins C gs)) (l : gs.length < 1000) (q : r D s (put h p (.ins C (putT f y gs)))) : sSeq (sFldT C f mo mv) r D s h := hy _ (hx _ (by
  try dsimp only
  rw [hp]
  exact ⟨rfl, l, q⟩))
theorem fldT_any (q : mv s h (fun y h1 => mo s h1 (fun x h2 => match x with
  | .ref p => match h2 p with
    | some (.ins C' gs) => C' = C ∧ gs.length < 1000 ∧ r D s (put h2 p (.ins C (putT f y gs)))
    | _ => False
  | _ => False) D.ex) D.ex) : sSeq (sFldT C f mo mv) r D s h := q
theorem fldT_to {N : SK} {rt : TK} {bk ct : SK} {ex : EX} {y : T} (hy : Ev s h ex mv y) (hx : Ev s h ex mo (.ref p)) (hp : h p = some (.ins C gs)) (l : gs.length < 1000) (q : N s (put h p (.ins C (putT f y gs)))) : sFldT C f mo mv { nx := N, rt := rt, bk := bk, ct := ct, ex := ex } s h := hy _ (hx _ (by
  try dsimp only
  rw [hp]
  exact ⟨rfl, l, q⟩))
end
theorem frz_I {Q : TK} {i : Int} {h : Hq} (q : Q (.int i) h) : frzK Q (.int i) h := q
theorem frz_N {Q : TK} {h : Hq} (q : Q .non h) : frzK Q .non h := q
theorem frz_B {Q : TK} {b : Bool} {h : Hq} (q : Q (.bl b) h) : frzK Q (.bl b) h := q
theorem frz_T {Q : TK} {ts : List T} {h : Hq} (q : Q (.tup ts) h) : frzK Q (.tup ts) h := q
theorem g3_go {i1 i2 i3 : Nat} {x1 x2 x3 : T} {s : Sl} {h : Hq} {Q : SK} {E : EX} (q : Q (((s.set i1 (some x1)).set i2 (some x2)).set i3 (some x3)) h) : gTup 3 (gCons (gN i1) (gCons (gN i2) (gCons (gN i3) gNil))) (.tup [x1, x2, x3]) s h Q E := ⟨rfl, rfl, q⟩
end TL

set_option maxHeartbeats 1000000
namespace TL
open PySem L2
theorem dput_to {N : SK} {rt : TK} {bk ct : SK} {ex : EX} {mo mi mv : EM} {p : Addr} {gs : List (Key × T)} {y v : T} {k : Key} {s : Sl} {h : Hq} (hv : Ev s h ex mv v) (ho : Ev s h ex mo (.ref p)) (hi : Ev s h ex mi y) (hp : h p = some (.dK gs)) (hk : keyT y = some k) (l : gs.length < lim) (q : N s (put h p (.dK (putD gs k v)))) : sDPutT mo mi mv { nx := N, rt := rt, bk := bk, ct := ct, ex := ex } s h := hv _ (ho _ (hi _ (by
  dsimp only
  rw [hp]
  refine ⟨l, ?_⟩
  rw [hk]
  exact q)))
theorem dput_go {mo mi mv : EM} {r : SM} {D : En} {p : Addr} {gs : List (Key × T)} {y v : T} {k : Key} {s : Sl} {h : Hq} (hv : Ev s h D.ex mv v) (ho : Ev s h D.ex mo (.ref p)) (hi : Ev s h D.ex mi y) (hp : h p = some (.dK gs)) (hk : keyT y = some k) (l : gs.length < lim) (q : r D s (put h p (.dK (putD gs k v)))) : sSeq (sDPutT mo mi mv) r D s h := dput_to hv ho hi hp hk l q
theorem sfor_ref {x : EM} {g : GM} {b r : SM} {D : En} {p : Addr} {ts : List T} {s : Sl} {h : Hq} (hx : Ev s h D.ex x (.ref p)) (hp : h p = some (.lst ts)) (I : Nat → SK) (h0 : I 0 s h) (hend : ∀ s h, I ts.length s h → h p = some (.lst ts) ∧ r D s h)
    (hstep : ∀ i t s h, ts[i]? = some t → I i s h → h p = some (.lst ts) ∧ g t s h (fun s2 h2 => b { nx := I (i + 1), rt := D.rt, bk := r D, ct := I (i + 1), ex := D.ex } s2 h2) D.ex) : sSeq (sFor (iSeq x) g b) r D s h := hx _ (by
  dsimp only
  rw [hp]
  exact forK_go I h0 (fun s h q => hend s h q) fun i t s h e q => hstep i t s h e q)
def unrK (g : GM) (b : SM) (D : En) : List T → SK
  | [] => D.nx
  | t :: ts => fun s h => g t s h (fun s2 h2 => b { nx := unrK g b D ts, rt := D.rt, bk := D.nx, ct := unrK g b D ts, ex := D.ex } s2 h2) D.ex
theorem unr_gN {i : Nat} {t : T} {ts : List T} {b : SM} {D : En} {s : Sl} {h : Hq} (q : b { nx := unrK (gN i) b D ts, rt := D.rt, bk := D.nx, ct := unrK (gN i) b D ts, ex := D.ex } (s.set i (some t)) h) : unrK (gN i) b D (t :: ts) s h := q
theorem unr_nil {g : GM} {b : SM} {D : En} {s : Sl} {h : Hq} (q : D.nx s h) : unrK g b D [] s h := q
theorem sfor_unr {src : IM} {g : GM} {b r : SM} {D : En} {ts : List T} {s : Sl} {h : Hq} (hs : Eq1 s h D.ex src ts) (q : unrK g b { D with nx := r D } ts s h) : sSeq (sFor src g b) r D s h := by
  refine sfor hs (fun i s h => unrK g b { D with nx := r D } (ts.drop i) s h) q (fun s h q => ?_) fun i t s h e q => ?_
  · rw [List.drop_length] at q
    exact q
  · obtain ⟨_, ed, _⟩ := at_drop e
    rw [ed] at q
    exact q
theorem ev_same {s : Sl} {h : Hq} {E : EX} {x y : EM} {t : T} {n : Nat} (hx : Ev s h E x t) (hy : Ev s h E y t) (hv : view h t = t) (hc : cln n t = true) (hn : n ≤ 64 := by decide) : Ev s h E (eOp oNe x y) (.bl false) := ev_neC (n := n) hx hy (by rw [hv]; exact hc) (by rw [hv]; exact hc) (iff_of_false Bool.false_ne_true fun z => z rfl) hn
theorem cln_ints (ns : List Int) : cln 2 (.lst (ns.map .int)) = true := by
  show (ns.map T.int).all _ = true
  rw [List.all_map, List.all_eq_true]
  intro x _
  rfl
theorem ev_sameE {s : Sl} {h : Hq} {E : EX} {x y : EM} {t : T} {n : Nat} (hx : Ev s h E x t) (hy : Ev s h E y t) (hv : view h t = t) (hc : cln n t = true) (hn : n ≤ 64 := by decide) : Ev s h E (eOp oEq x y) (.bl true) := ev_eqC (n := n) hx hy (by rw [hv]; exact hc) (by rw [hv]; exact hc) (iff_of_true rfl rfl) hn
section
variable {s : Sl} {h : Hq} {D : En} {r x y : SM} {p : Addr}
theorem sif_draw {i : Nat} {z : EM} {n k : Int} (hi : s[i]? = some (some (.ref p))) (hz : Ev s h D.ex z (.int n)) (hp : h p = some .pool) (n0 : 0 < n) (n1 : n < 2 ^ 250) (q1 : x { D with nx := r D } s h) (q2 : y { D with nx := r D } s h) : sSeq (sIf (tOf (eOp oEq (eFrz (eCall 2 CDraw (aCons (eVar i) (aCons z aNil)))) (eC (.int k)))) x y) r D s h := by
  refine op_go (draw_go hi hz hp n0 n1 fun w w0 w1 => ?_)
  show eOp oEq (eC (.int w)) (eC (.int k)) s h (fun x_1 h1 => match x_1 with
        | T.bl b => (fun (d : Bool) h1 => if d = true then x { nx := r D, rt := D.rt, bk := D.bk, ct := D.ct, ex := D.ex } s h1 else y { nx := r D, rt := D.rt, bk := D.bk, ct := D.ct, ex := D.ex } s h1) b h1
        | _ => False) D.ex
  refine ev_eqI (i := w) (j := k) ev_c ev_c _ ?_
  by_cases c : w = k
  · rw [decide_eq_true c]; exact q1
  · rw [decide_eq_false c]; exact q2
theorem sif_drawN {i : Nat} {z : EM} {n k : Int} (hi : s[i]? = some (some (.ref p))) (hz : Ev s h D.ex z (.int n)) (hp : h p = some .pool) (n0 : 0 < n) (n1 : n < 2 ^ 250) (q : ∀ N : SK, N = r D → x { D with nx := N } s h ∧ y { D with nx := N } s h) : sSeq (sIf (tOf (eOp oEq (eFrz (eCall 2 CDraw (aCons (eVar i) (aCons z aNil)))) (eC (.int k)))) x y) r D s h := sif_draw hi hz hp n0 n1 (q _ rfl).1 (q _ rfl).2
theorem ife_draw {i : Nat} {z a b : EM} {n k : Int} {E : EX} {Q : TK} (hi : s[i]? = some (some (.ref p))) (hz : Ev s h E z (.int n)) (hp : h p = some .pool) (n0 : 0 < n) (n1 : n < 2 ^ 250) (q1 : a s h Q E) (q2 : b s h Q E) : eIf (tOf (eOp oEq (eFrz (eCall 2 CDraw (aCons (eVar i) (aCons z aNil)))) (eC (.int k)))) a b s h Q E := by
  refine op_go (draw_go hi hz hp n0 n1 fun w w0 w1 => ?_)
  show eOp oEq (eC (.int w)) (eC (.int k)) s h (fun x_1 h1 => match x_1 with
        | T.bl b_1 => (fun (d : Bool) h1 => if d = true then a s h1 Q E else b s h1 Q E) b_1 h1
        | _ => False) E
  refine ev_eqI (i := w) (j := k) ev_c ev_c _ ?_
  by_cases c : w = k
  · rw [decide_eq_true c]; exact q1
  · rw [decide_eq_false c]; exact q2
theorem for_draw {i : Nat} {z : EM} {k : Int} {g : GM} {b : SM} (hi : s[i]? = some (some (.ref p))) (hz : Ev s h D.ex z (.int k)) (hp : h p = some .pool) (k0 : 0 < k) (k1 : k ≤ 1000000)
    (q : ∀ n : Nat, (n : Int) < k → sFor (iRange1 (aCons (eC (.int n)) aNil)) g b D s h) : sFor (iRange1 (aCons (eFrz (eCall 2 CDraw (aCons (eVar i) (aCons z aNil)))) aNil)) g b D s h := by
  unfold sFor iRange1
  refine ac_any (draw_go hi hz hp k0 (by omega) fun m m0 m1 => ?_)
  obtain ⟨n, rfl⟩ : ∃ n : Nat, m = (n : Int) := ⟨m.toNat, by omega⟩
  exact q n m1
theorem spar_to {N : SK} {rt : TK} {bk ct : SK} {ex : EX} {i j : Nat} {x y : EM} {u v : T} (hx : Ev s h ex x u) (hy : Ev s h ex y v) (q : N ((s.set i (some u)).set j (some v)) h) : sPar i j (aCons x (aCons y aNil)) { nx := N, rt := rt, bk := bk, ct := ct, ex := ex } s h := hx _ (hy _ q)
theorem to_nx {N : SK} {rt : TK} {bk ct : SK} {ex : EX} (q : N s h) : sNext { nx := N, rt := rt, bk := bk, ct := ct, ex := ex } s h := q
theorem for_rng {src : IM} {g : GM} {b : SM} {lo : Int} {n : Nat} (hs : Eq1 s h D.ex src (rng lo n)) (I : Nat → SK) (h0 : I 0 s h) (hend : ∀ s h, I n s h → D.nx s h)
    (hstep : ∀ (i : Nat) s h, i < n → I i s h → g (.int (lo + i)) s h (fun s2 h2 => b { nx := I (i + 1), rt := D.rt, bk := D.nx, ct := I (i + 1), ex := D.ex } s2 h2) D.ex) : sFor src g b D s h :=
  for_src1 hs (forK_rng I h0 (fun s h q => ⟨trivial, hend s h q⟩) fun i s h hi q => ⟨trivial, hstep i s h hi q⟩)
theorem for_map {α : Type} {enc : α → T} {src : IM} {g : GM} {b : SM} {xs : List α} (hs : Eq1 s h D.ex src (xs.map enc)) (I : Nat → SK) (h0 : I 0 s h) (hend : ∀ s h, I xs.length s h → D.nx s h)
    (hstep : ∀ i x s h, xs[i]? = some x → I i s h → g (enc x) s h (fun s2 h2 => b { nx := I (i + 1), rt := D.rt, bk := D.nx, ct := I (i + 1), ex := D.ex } s2 h2) D.ex) : sFor src g b D s h :=
  for_src1 hs (forK_map I h0 (fun s h q => ⟨trivial, hend s h q⟩) fun i t s h e q => ⟨trivial, hstep i t s h e q⟩)
def appK (p : Addr) (Q : TK) : TK := fun y h => match h p with
  | some (.lst ts) => ts.length < lim ∧ Q .non (put h p (.lst (ts ++ [y])))
  | _ => False
theorem app_any {i : Nat} {ts : List T} {m : EM} {E : EX} {Q : TK} (hi : s[i]? = some (some (.ref p))) (hp : h p = some (.lst ts)) (q : m s h (appK p Q) E) : eBM isLs oApp (eVar i) (aCons m aNil) s h Q E := by
  refine ev_var hi _ ⟨?_, q⟩
  unfold isLs lsOf
  dsimp only
  rw [hp]
  rfl
theorem appK_go {ts : List T} {y : T} {Q : TK} (hp : h p = some (.lst ts)) (l : ts.length < lim) (q : Q .non (put h p (.lst (ts ++ [y])))) : appK p Q y h := by
  unfold appK
  rw [hp]
  exact ⟨l, q⟩
theorem pick_str {x : EM} {z : Str} {i : Nat} {n : Int} {E : EX} {Q : TK} (hx : Ev s h E x (.str z)) (hi : s[i]? = some (some (.ref p))) (hp : h p = some .pool) (e : n = z.cps.toList.length) (l : z.length ≤ lim) (n0 : 0 < n) (n1 : n < 2 ^ 250) (q : ∀ c ∈ z.cps.toList, Q (.str ⟨#[c]⟩) h) : eOp oIx x (eFrz (eCall 2 CDraw (aCons (eVar i) (aCons (eC (.int n)) aNil)))) s h Q E :=
  op_go (hx _ (draw_go hi ev_c hp n0 n1 fun r r0 r1 => by
    obtain ⟨m, rfl⟩ : ∃ m : Nat, r = (m : Int) := ⟨r.toNat, by omega⟩
    have hm : m < z.cps.toList.length := by omega
    show z.length ≤ lim ∧ match atI z.cps.toList (m : Int) with
      | some c => Q (.str ⟨#[c]⟩) h
      | none => False
    refine ⟨l, ?_⟩
    rw [show atI z.cps.toList (m : Int) = some z.cps.toList[m] from atI_nat' (List.getElem?_eq_getElem hm)]
    exact q _ (List.getElem_mem hm)))
end
theorem pick_len {x y : EM} {ts : List T} {i : Nat} {p : Addr} {s : Sl} {h : Hq} {E : EX} {Q : TK} (hx : Ev s h E x (.lst ts)) (hy : Ev s h E y (.lst ts)) (hi : s[i]? = some (some (.ref p))) (hp : h p = some .pool) (l0 : 0 < ts.length) (l1 : ts.length ≤ 1000000) (q : ∀ (j : Nat) t, ts[j]? = some t → Q t h) :
    eOp oIx x (eFrz (eCall 2 CDraw (aCons (eVar i) (aCons (eCB oLen (aCons y aNil)) aNil)))) s h Q E := by
  refine op_go (hx _ (draw_go hi (ev_len hy rfl) hp (by omega) (Int.lt_of_le_of_lt (show (ts.length : Int) ≤ 1000000 by omega) (by decide)) fun r r0 r1 => ?_))
  obtain ⟨j, rfl⟩ : ∃ j : Nat, r = (j : Int) := ⟨r.toNat, by omega⟩
  have hj : j < ts.length := by omega
  show atK ts (j : Int) h Q
  unfold atK
  rw [show atI ts (j : Int) = some ts[j] from atI_nat' (List.getElem?_eq_getElem hj)]
  exact q j _ (List.getElem?_eq_getElem hj)
theorem draw_pick {ts : List T} {i : Nat} {p : Addr} {n : Int} {s : Sl} {h : Hq} {E : EX} {Q : TK} (hi : s[i]? = some (some (.ref p))) (hp : h p = some .pool) (e : n = ts.length) (n0 : 0 < n) (n1 : n < 2 ^ 250) (ht : ∀ t ∈ ts, ∃ m : Int, t = .int m ∧ 0 < m ∧ m ≤ 10 ^ 31) (q : ∀ t ∈ ts, ∀ m r : Int, t = .int m → 0 ≤ r → r < m → Q (.int r) h) :
    eFrz (eCall 2 CDraw (aCons (eVar i) (aCons (eOp oIx (eC (.lst ts)) (eFrz (eCall 2 CDraw (aCons (eVar i) (aCons (eC (.int n)) aNil))))) aNil))) s h Q E := by
  refine call_go (ac_ev (ev_var hi) (ac_any (pick_ev ev_c hi hp e n0 n1 fun t mt => an_go ?_)))
  obtain ⟨m, rfl, m0, m1⟩ := ht t mt
  have : (10 : Int) ^ 31 < 2 ^ 250 := by decide
  exact ⟨rfl, p, m, rfl, m0, by omega, hp, fun r r0 r1 => q _ mt m r rfl r0 r1⟩
theorem sl_draw {ts : List T} {i : Nat} {p : Addr} {z : EM} {n : Int} {s : Sl} {h : Hq} {E : EX} {Q : TK} (hi : s[i]? = some (some (.ref p))) (hz : Ev s h E z (.int n)) (hp : h p = some .pool) (n0 : 0 < n) (n1 : n < 2 ^ 250) (q : ∀ r, 0 ≤ r → r < n → Q (.lst (cutT ts none (some (1 + r)))) h) :
    eSl true (eC (.lst ts)) mNo (mPart (eOp (oAdd true) (eC (.int 1)) (eFrz (eCall 2 CDraw (aCons (eVar i) (aCons z aNil)))))) s h Q E := by
  unfold eSl mPart mNo
  refine op_go (ev_c _ (draw_go hi hz hp n0 n1 fun r r0 r1 => add_go ?_))
  show mk true (cutT ts none (some (1 + r))) h Q
  rw [mk_true]
  exact q r r0 r1
def exTryO (K : PySem.W.Frag) (c : Value) (ms : Addr → Value → Option Addr → SM) (D : En) : EX := fun x s1 h1 => ∃ ok, PySem.W.exmOne K x.cls c = some ok ∧ (ok = true → ∀ a d, h1 a = none → ms a x.cls d { nx := D.nx, rt := D.rt, bk := D.bk, ct := D.ct } s1 h1) ∧ (ok = false → D.ex x s1 h1)
def sTryO (K : PySem.W.Frag) (c : Value) (b : SM) (ms : Addr → Value → Option Addr → SM) : SM := fun D s h => b { nx := D.nx, rt := D.rt, bk := D.bk, ct := D.ct, ex := exTryO K c ms D } s h
section
variable {X : Cx} {W : WX}
theorem js_tryO {x : Str} {c : Value} {body suite : List Stmt} {b₀ : Stmt} {np pos pos' : Pos} {mb : SM} {ms : Addr → Value → Option Addr → SM} (hs : X.stack = X.env :: X.outer) (hf : X.env.frame = some X.env.locals) (hc : Names X x c) (tk : Takes X W)
    (hb : ∀ (W : WX) (pn : List (Addr × Obj)) (xe : Value → Shared → Prop), Takes (X.tr pn xe) W → PassesOwn (model X.prog X.w) X.A X.env xe → JSs (X.tr pn xe) W body mb)
    (hsu : ∀ (a : Addr) (oe : Obj) (cls : Value) (d : Option Addr) (pn : List (Addr × Obj)), Zc cls d oe → (∃ vs, oe.data = .fields vs) → JSs (X.suite a ((a, oe) :: pn)) W0 (b₀ :: suite) (ms a cls d)) :
    JS X W (.Try body [.ExceptHandler (some (.Name x np)) none (b₀ :: suite) pos'] [] [] pos) (sTryO X.K c mb ms) := PS.wk (ps_try_only (tb := fun W => liftS X.K W mb) (ts := fun a cls d => liftS X.K W0 (ms a cls d)) hs hf hc tk hb hsu) fun D' σ H ⟨S, h, s, D, m, rs, lk, hm⟩ => by
  refine ⟨S, h, s, { nx := D.nx, rt := D.rt, bk := D.bk, ct := D.ct, ex := exTryO X.K c ms D }, m, rs, ⟨lk.nx, lk.rt, lk.bk, lk.ct, fun S1 H1 h1 σ1 s1 x cls d f1 m1 r1 rx ⟨ok, e, yes, no⟩ => ?_⟩, hm⟩
  obtain ⟨ec, _⟩ := id rx
  refine ⟨ok, by rw [ec]; exact e, fun eo a na => ?_, fun eo => lk.ex S1 H1 h1 σ1 s1 x cls d f1 m1 r1 rx (no eo)⟩
  have q := yes eo a d (m1.free na)
  rw [ec]
  refine ⟨S1, h1, _, _, m1, r1, ?_, q⟩
  exact { nx := fun S2 H2 h2 σ2 s2 f2 m2 r2 q2 => lk.nx S2 H2 h2 _ _ (f1.trans f2) m2 r2 q2, rt := fun S2 H2 h2 v u f2 m2 r2 q2 => lk.rt S2 H2 h2 _ _ (f1.trans f2) m2 r2 q2, bk := fun S2 H2 h2 σ2 s2 f2 m2 r2 q2 => lk.bk S2 H2 h2 _ _ (f1.trans f2) m2 r2 q2, ct := fun S2 H2 h2 σ2 s2 f2 m2 r2 q2 => lk.ct S2 H2 h2 _ _ (f1.trans f2) m2 r2 q2, ex := fun _ _ _ _ _ _ _ _ _ _ _ _ z => z.elim }
theorem ex_tryO {K : PySem.W.Frag} {c : Value} {ms : Addr → Value → Option Addr → SM} {D : En} {x : Ex} {s : Sl} {h : Hq} (hm : PySem.W.exmOne K x.cls c = some true) (q : ∀ a d, h a = none → ms a x.cls d { nx := D.nx, rt := D.rt, bk := D.bk, ct := D.ct } s h) : exTryO K c ms D x s h := ⟨true, hm, fun _ => q, fun z => nomatch z⟩
theorem stryO_go {K : PySem.W.Frag} {c : Value} {b r : SM} {ms : Addr → Value → Option Addr → SM} {D : En} {s : Sl} {h : Hq} (q : b { nx := r D, rt := D.rt, bk := D.bk, ct := D.ct, ex := exTryO K c ms { D with nx := r D } } s h) : sSeq (sTryO K c b ms) r D s h := q
end
def eSlT (a : EM) (l u : OM) : EM := fun s h Q E => a s h (fun x h1 => l s h1 (fun lo h2 => u s h2 (fun hi h3 => match x with
  | .tup ts => Q (.tup (cutT ts lo hi)) h3
  | _ => False) E) E) E
theorem cut_whole {ts : List T} {lo hi : Option Int} (h : HT.sIx ts.length 0 lo = 0 ∧ HT.sIx ts.length ts.length hi = ts.length) : cutT ts lo hi = ts := by
  unfold cutT
  rw [h.1, h.2, List.drop_zero, Nat.sub_zero, List.take_length]
section
variable {X : Cx} {W : WX}
theorem rep_tup {K : PySem.W.Frag} {S : Fz} {H : Hp} {v : V} {ts : List T} (r : Rep K S H v (.tup ts)) : ∃ a vs, v = .ref a ∧ SqT K H a vs ∧ RepL K S H vs ts := by
  cases r with
  | tup s h q => exact ⟨_, _, rfl, SqT.of h, q⟩
  | tupK h q => exact ⟨_, _, rfl, .inr h, q⟩
theorem j_slT {a : Expr} {lo hi : Option Expr} {ma : EM} {ml mh : OM} {p2 pos : Pos} (ha : JE X W a ma) (hl : JO X W lo ml) (hh : JO X W hi mh) : JE X W (.Subscript a (.Slice lo hi none p2) pos) (eSlT ma ml mh) := PE.wk (pe_slice sl_tupA ha hl hh) fun σ H Q' ⟨S, h, s, Q, E, m, rs, lk, hm, pk⟩ =>
  ⟨S, h, s, _, E, m, rs, lk, hm, fun S1 H1 h1 v x f1 m1 r1 q1 => ⟨S1, h1, s, _, E, m1, rs.fut f1, lk.fut f1, q1, fun S2 H2 h2 l f2 m2 q2 => ⟨S2, h2, s, _, E, m2, rs.fut (f1.trans f2), lk.fut (f1.trans f2), q2, fun S3 H3 h3 u f3 m3 q3 => by
    have r3 := r1.fut (f2.trans f3)
    cases x with
    | tup ts =>
      obtain ⟨b, vs, rfl, sq, rl⟩ := rep_tup r3
      have ln := rl.length
      have pk3 := pk.fut ((f1.trans f2).trans f3)
      refine ⟨b, vs, rfl, sq, fun hw => ?_, fun _ => tup_ok m3 (cut_rep rl l u) q3 pk3⟩
      rw [ln] at hw
      have q4 : Q (.tup (cutT ts l u)) h3 := q3
      rw [cut_whole hw] at q4
      exact pk3 S3 H3 h3 _ _ Fut.refl m3 r3 q4
    | _ => exact q3.elim⟩⟩⟩
def aStar (m : EM) (r : AM) : AM := fun s h Q E => m s h (fun x h1 => match x with
  | .tup ts => r s h1 (fun us h2 => Q (ts ++ us) h2) E
  | _ => False) E
theorem ja_star {e : Expr} {es : List Expr} {p : Pos} {m : EM} {r : AM} (he : JE X W e m) (hr : JA X W es r) (hs : starEach (.Starred e p :: es) X.env = (true, eval e X.env) :: starEach es X.env := by rfl) : JA X W (.Starred e p :: es) (aStar m r) := PA.wk (StX.pa_star he hr hs) fun σ H Q' ⟨S, h, s, Q, E, mm, rs, lk, hm, pk⟩ =>
  ⟨S, h, s, _, E, mm, rs, lk, hm, fun S1 H1 h1 v x f1 m1 r1 q1 => by
    cases x with
    | tup ts =>
      obtain ⟨b, vs, rfl, sq, rl⟩ := rep_tup r1
      exact ⟨b, vs, rfl, .inl sq, S1, h1, s, _, E, m1, rs.fut f1, lk.fut f1, q1, fun S2 H2 h2 ws us f2 m2 r2 q2 => pk S2 H2 h2 _ _ (f1.trans f2) m2 ((rl.fut f2).append r2) q2⟩
    | _ => exact q1.elim⟩
end
def oTupL : RLT := fun xs h Q => match xs with
  | [x] => match x with
    | .tup ts => Q (.tup ts) h
    | x => match lsOf h x with
      | some ts => Q (.tup ts) h
      | none => False
  | _ => False
theorem c_tupL {K : PySem.W.Frag} : CP K (fun xs H Q => ∃ p ys, xs = [.ref p] ∧ ((SqL K H p ys ∧ ∀ l, H l = none → Q (.ref l) (upd H l (.tup ys))) ∨ (SqT K H p ys ∧ Q (.ref p) H))) oTupL := fun S H h vs xs Q Q' m r q pk => by
  unfold oTupL at q
  split at q
  · rename_i x
    cases r with
    | cons r1 r2 =>
      cases r2
      split at q
      · rename_i ts
        obtain ⟨b, vs, rfl, sq, rl⟩ := rep_tup r1
        exact ⟨b, vs, rfl, .inr ⟨sq, pk S H h _ _ Fut.refl m r1 q⟩⟩
      · split at q
        · rename_i ts e
          obtain ⟨b, vs, rfl, ha, rl⟩ := lsOf_ok m r1 e
          exact ⟨b, vs, rfl, .inl ⟨SqL.of ha, tup_ok m rl q pk⟩⟩
        · exact q.elim
  · exact q.elim
theorem ev_tupL {s : Sl} {h : Hq} {E : EX} {m : EM} {ts : List T} (hx : Ev s h E m (.lst ts)) : Ev s h E (eCB oTupL (aCons m aNil)) (.tup ts) := fun Q q => hx _ q
theorem star_go {m : EM} {r : AM} {ts : List T} {s : Sl} {h : Hq} {E : EX} {Q : List T → Hq → Prop} (hm : Ev s h E m (.tup ts)) (q : r s h (fun us h2 => Q (ts ++ us) h2) E) : aStar m r s h Q E := hm _ q
theorem ev_slT {x : EM} {l u : OM} {ts : List T} {lo hi : Option Int} {s : Sl} {h : Hq} {E : EX} (hx : Ev s h E x (.tup ts)) (hl : ∀ R : Option Int → Hq → Prop, R lo h → l s h R E) (hu : ∀ R : Option Int → Hq → Prop, R hi h → u s h R E) : Ev s h E (eSlT x l u) (.tup (cutT ts lo hi)) := fun Q q => hx _ (hl _ (hu _ q))
theorem aug_to {N : SK} {rt : TK} {bk ct : SK} {ex : EX} {i : Nat} {m : EM} {x y : Int} {s : Sl} {h : Hq} (hi : s[i]? = some (some (.int x))) (hm : Ev s h ex m (.int y)) (q : N (s.set i (some (.int (x + y)))) h) : sAug i m oAddI { nx := N, rt := rt, bk := bk, ct := ct, ex := ex } s h := by
  unfold sAug
  rw [hi]
  exact hm _ q
theorem aug_go {D : En} {r : SM} {i : Nat} {m : EM} {x y : Int} {s : Sl} {h : Hq} (hi : s[i]? = some (some (.int x))) (hm : Ev s h D.ex m (.int y)) (q : r D (s.set i (some (.int (x + y)))) h) : sSeq (sAug i m oAddI) r D s h := aug_to hi hm q
theorem lcN_go {i : Nat} {own : List Nat} {t : T} {s : Sl} {h : Hq} {el : EM} {J : T → Hq → Prop} {J0 : Hq → Prop} (q : el ((wipeT s own).set i (some t)) h J E0) :
    (match cN i own t s with
      | some s2 => tYes s2 h (fun b h3 => if b = true then el s2 h3 (fun y h4 => J y h4) E0 else J0 h3) E0
      | none => False) := q
def gDSub (a b : EM) : GM := fun v s h Q E => a s h (fun o h1 => b s h1 (fun i h2 => match o with
  | .ref p => match h2 p with
    | some (.dK gs) => gs.length < lim ∧ match keyT i with
      | some k => Q s (put h2 p (.dK (putD gs k v)))
      | none => False
    | _ => False
  | _ => False) E) E
section
variable {X : Cx} {W : WX}
theorem jg_dsub {o i : Expr} {a b : EM} {pos : Pos} (hu : X.A.units + 1 < cLine) (ho : JE X W o a) (hi : JE X W i b)
    (ha : ∀ v, assign (.Subscript o i pos) X.env v = (do
      let ov ← holding [v] (eval o X.env)
      let iv ← holding [v, ov] (eval i X.env)
      standAt pos
      holding [v, ov, iv] (setItem ov iv v)
      release [v, ov, iv] []) := by intro _; rfl) : JG X W (.Subscript o i pos) (gDSub a b) := PG.wk (pg_sub ho hi (set_dict hu) ha) fun v σ H Q' ⟨S, h, s, t, Q, E, m, rs, r, lk, hm, pk⟩ =>
  ⟨S, h, s, _, E, m, rs, lk, hm, fun S1 H1 h1 vo to f1 m1 r1 q1 => ⟨S1, h1, s, _, E, m1, rs.fut f1, lk.fut f1, q1, fun S2 H2 h2 vi ti f2 m2 r2 q2 => by
    split at q2
    · split at q2
      · obtain ⟨hl, q2⟩ := q2
        split at q2
        · rename_i p _ gs e _ k ek
          have r1' := r1.fut f2
          cases r1'
          rw [keyT_ok r2 ek]
          obtain ⟨kvs, e1, rr⟩ := ref_dK m2 e
          have f4 : Fut S2 H2 S2 (upd H2 p (.dK (putK kvs k v))) := fut_upd (m2.nS' e)
          refine ⟨p, _, rfl, DPut.k e1 (lim_lt (by rw [rr.length]; exact Nat.le_of_lt hl)), ?_⟩
          exact pk S2 _ _ σ s ((f1.trans f2).trans f4) (m2.write (o' := .dK (putD gs k t)) e ⟨_, rfl, rr.put (r.fut (f1.trans f2))⟩) (rs.fut ((f1.trans f2).trans f4)) q2
        · exact q2.elim
      · exact q2.elim
    · exact q2.elim⟩⟩
end
theorem eqTs_self {f : T → Bool} (ih : ∀ t, f t = true → eqT t t = true) : ∀ ts : List T, ts.all f = true → eqTs ts ts = true
  | [], _ => rfl
  | t :: ts, h => by
    rw [List.all_cons, Bool.and_eq_true] at h
    show (eqT t t && eqTs ts ts) = true
    rw [ih t h.1, eqTs_self ih ts h.2]
    rfl
theorem eqT_self : ∀ (n : Nat) (t : T), dat n t = true → eqT t t = true
  | 0, _, h => by cases h
  | n + 1, .non, _ => rfl
  | n + 1, .bl b, _ => by cases b <;> rfl
  | n + 1, .int i, _ => by rw [eqT_int]; exact decide_eq_true rfl
  | n + 1, .str x, h => by rw [eqT_str h h]; exact decide_eq_true rfl
  | n + 1, .tup ts, h => by rw [eqT_tup h h]; exact eqTs_self (eqT_self n) ts h
  | n + 1, .lst ts, h => by rw [eqT_lst h h]; exact eqTs_self (eqT_self n) ts h
  | n + 1, .ins _ _, h => by cases h
  | n + 1, .ref _, h => by cases h
  | n + 1, .ty _, h => by cases h
  | n + 1, .scr _, h => by cases h
theorem ev_selfN {s : Sl} {h : Hq} {E : EX} {x y : EM} {t : T} {n : Nat} (hx : Ev s h E x t) (hy : Ev s h E y t) (hc : dat n (view h t) = true) (hn : n ≤ 64 := by decide) : Ev s h E (eOp oNe x y) (.bl false) := ev_op hx hy fun Q q => by
  refine ⟨dep (n := n) hc hn, dep (n := n) hc hn, ?_⟩
  rw [eqT_self n _ hc]
  exact q
theorem ev_selfE {s : Sl} {h : Hq} {E : EX} {x y : EM} {t : T} {n : Nat} (hx : Ev s h E x t) (hy : Ev s h E y t) (hc : dat n (view h t) = true) (hn : n ≤ 64 := by decide) : Ev s h E (eOp oEq x y) (.bl true) := ev_op hx hy fun Q q => by
  refine ⟨dep (n := n) hc hn, dep (n := n) hc hn, ?_⟩
  rw [eqT_self n _ hc]
  exact q
theorem drop_to {e : EM} {N : SK} {rt : TK} {bk ct : SK} {ex : EX} {s : Sl} {h : Hq} (q : e s h (fun _ h1 => N s h1) ex) : sDrop e { nx := N, rt := rt, bk := bk, ct := ct, ex := ex } s h := q
theorem gc_go {g : GM} {b : GMs} {v : T} {r : List T} {s : Sl} {h : Hq} {Q : SK} {E : EX} (q : g v s h (fun s1 h1 => b r s1 h1 Q E) E) : gCons g b (v :: r) s h Q E := q
theorem gds_go {mo mi : EM} {p : Addr} {gs : List (Key × T)} {y v : T} {k : Key} {s : Sl} {h : Hq} {E : EX} {Q : SK} (ho : Ev s h E mo (.ref p)) (hi : Ev s h E mi y) (hp : h p = some (.dK gs)) (hk : keyT y = some k) (l : gs.length < lim) (q : Q s (put h p (.dK (putD gs k v)))) : gDSub mo mi v s h Q E := ho _ (hi _ (by
  dsimp only
  rw [hp]
  refine ⟨l, ?_⟩
  rw [hk]
  exact q))
def rIsAny (neg : Bool) : R2 := fun x y H Q => ∃ b : Bool, y = .bl b ∧ ((∃ c, x = .bl c ∧ Q (.bl (xor neg (decide (c = b)))) H) ∨ ((x = .non ∨ (∃ i, x = .int i) ∨ (∃ z, x = .str z) ∨ ∃ a, x = .ref a) ∧ Q (.bl neg) H))
section
variable {X : Cx}
theorem op_isB : OpR X (compareOp .Is) (rIsAny false) := by
  intro pins s σ H x y v u Q I rx ry h
  obtain ⟨b, rfl, h⟩ := h
  cases (show u = Value.bool b from ry)
  rcases h with ⟨c, rfl, q⟩ | ⟨hx, q⟩
  · cases (show v = Value.bool c from rx)
    rw [Bool.false_xor] at q
    by_cases e : c = b
    · subst e
      exact wpAny_is_self rfl ⟨.bl true, H, I, rfl, by rwa [decide_eq_true rfl] at q⟩
    · exact wpAny_is_other rfl (fun z => e (Value.bool.inj z)) ⟨.bl false, H, I, rfl, by rwa [decide_eq_false e] at q⟩
  · have fin : EP X pins σ Q (.bool false) s := ⟨.bl false, H, I, rfl, q⟩
    rcases hx with rfl | ⟨i, rfl⟩ | ⟨z, rfl⟩ | ⟨a, rfl⟩
    · cases (show v = Value.none from rx)
      exact wpAny_is_other rfl (fun z => nomatch z) fin
    · obtain ⟨t, rfl⟩ := rx
      exact wpAny_is_other rfl (fun z => nomatch z) fin
    · obtain ⟨t, rfl⟩ := rx
      exact wpAny_is_other rfl (fun z => nomatch z) fin
    · cases (show v = Value.ref a from rx)
      exact wpAny_is_other rfl (fun z => nomatch z) fin
theorem op_isnotB : OpR X (compareOp .IsNot) (rIsAny true) := by
  intro pins s σ H x y v u Q I rx ry h
  obtain ⟨b, rfl, h⟩ := h
  cases (show u = Value.bool b from ry)
  rcases h with ⟨c, rfl, q⟩ | ⟨hx, q⟩
  · cases (show v = Value.bool c from rx)
    rw [Bool.true_xor] at q
    by_cases e : c = b
    · subst e
      exact wpAny_isNot_self rfl ⟨.bl false, H, I, rfl, by rwa [decide_eq_true rfl] at q⟩
    · exact wpAny_isNot_other rfl (fun z => e (Value.bool.inj z)) ⟨.bl true, H, I, rfl, by rwa [decide_eq_false e] at q⟩
  · have fin : EP X pins σ Q (.bool true) s := ⟨.bl true, H, I, rfl, q⟩
    rcases hx with rfl | ⟨i, rfl⟩ | ⟨z, rfl⟩ | ⟨a, rfl⟩
    · cases (show v = Value.none from rx)
      exact wpAny_isNot_other rfl (fun z => nomatch z) fin
    · obtain ⟨t, rfl⟩ := rx
      exact wpAny_isNot_other rfl (fun z => nomatch z) fin
    · obtain ⟨t, rfl⟩ := rx
      exact wpAny_isNot_other rfl (fun z => nomatch z) fin
    · cases (show v = Value.ref a from rx)
      exact wpAny_isNot_other rfl (fun z => nomatch z) fin
def oIsB (neg : Bool) : R2T := fun x y h Q => match y with
  | .bl b => match x with
    | .bl c => Q (.bl (xor neg (decide (c = b)))) h
    | .non => Q (.bl neg) h
    | .int _ => Q (.bl neg) h
    | .str _ => Q (.bl neg) h
    | .tup _ => Q (.bl neg) h
    | .lst _ => Q (.bl neg) h
    | _ => False
  | _ => False
theorem p_isB {K : PySem.W.Frag} {neg : Bool} : OP K (rIsAny neg) (oIsB neg) := fun S H h v w x y Q Q' m r1 r2 q pk => by
  unfold oIsB at q
  split at q
  · rename_i b
    cases r2
    have fin : ∀ {u : V}, (u = .non ∨ (∃ i, u = .int i) ∨ (∃ z, u = .str z) ∨ ∃ a, u = .ref a) → Q (.bl neg) h → rIsAny neg u (.bl b) H Q' := fun hu q => ⟨b, rfl, .inr ⟨hu, pk S H h _ _ Fut.refl m (.bl _) q⟩⟩
    split at q
    · cases r1
      exact ⟨_, rfl, .inl ⟨_, rfl, pk S H h _ _ Fut.refl m (.bl _) q⟩⟩
    · cases r1; exact fin (.inl rfl) q
    · cases r1; exact fin (.inr (.inl ⟨_, rfl⟩)) q
    · cases r1; exact fin (.inr (.inr (.inl ⟨_, rfl⟩))) q
    · cases r1 <;> exact fin (.inr (.inr (.inr ⟨_, rfl⟩))) q
    · cases r1 <;> exact fin (.inr (.inr (.inr ⟨_, rfl⟩))) q
    · exact q.elim
  · exact q.elim
end
def blT : T → Option Bool
  | .bl c => some c
  | _ => none
def plT : T → Bool
  | .bl _ | .non | .int _ | .str _ | .tup _ | .lst _ => true
  | _ => false
theorem ev_isB {s : Sl} {h : Hq} {E : EX} {x : EM} {t : T} {b neg : Bool} (hx : Ev s h E x t) (hp : plT t = true) : Ev s h E (eOp (oIsB neg) x (eC (.bl b))) (.bl (xor neg (decide (blT t = some b)))) := fun Q q => hx _ (by
  have no : Q (.bl (xor neg (decide ((none : Option Bool) = some b)))) h → Q (.bl neg) h := fun q => by
    rwa [decide_eq_false (fun z => nomatch z), Bool.xor_false] at q
  cases t <;> first
    | exact no q
    | (show Q (.bl (xor neg (decide (_ = b)))) h
       rename_i c
       have e : (decide (blT (.bl c) = some b)) = decide (c = b) := by cases c <;> cases b <;> rfl
       rw [e] at q
       exact q)
    | cases hp)
def oCatA : R2T := fun x y h Q => match x, y with
  | .tup xs, .tup ys => xs.length + ys.length ≤ lim ∧ Q (.tup (xs ++ ys)) h
  | _, _ => False
theorem p_catA {K : PySem.W.Frag} : OP K (rCatA K) oCatA := fun S H h v w x y Q Q' m r1 r2 q pk => by
  unfold oCatA at q
  split at q
  · rename_i xs ys
    obtain ⟨a, vs, rfl, sq1, rl1⟩ := rep_tup r1
    obtain ⟨b, ws, rfl, sq2, rl2⟩ := rep_tup r2
    refine ⟨a, b, vs, ws, rfl, rfl, sq1, sq2, lim_le (by rw [rl1.length, rl2.length]; exact q.1), fun e => ?_, fun _ e => ?_, fun _ _ => tup_ok m (rl1.append rl2) q.2 pk⟩
    · have l := rl1.length
      rw [e] at l
      have ex : xs = [] := List.length_eq_zero_iff.mp l.symm
      have q2 := q.2
      rw [ex] at q2
      exact pk S H h _ _ Fut.refl m r2 q2
    · have l := rl2.length
      rw [e] at l
      have ey : ys = [] := List.length_eq_zero_iff.mp l.symm
      have q2 := q.2
      rw [ey, List.append_nil] at q2
      exact pk S H h _ _ Fut.refl m r1 q2
  · exact q.elim
theorem ev_catT {x y : EM} {xs ys : List T} {s : Sl} {h : Hq} {E : EX} (hx : Ev s h E x (.tup xs)) (hy : Ev s h E y (.tup ys)) (l : xs.length + ys.length ≤ lim) : Ev s h E (eOp oCatA x y) (.tup (xs ++ ys)) := ev_op hx hy fun Q q => ⟨l, q⟩
theorem if_goT {c : TM} {x y : EM} {s : Sl} {h : Hq} {E : EX} {Q : TK} (hc : Ef s h E true c) (q : x s h Q E) : eIf c x y s h Q E := hc _ q
theorem if_goF {c : TM} {x y : EM} {s : Sl} {h : Hq} {E : EX} {Q : TK} (hc : Ef s h E false c) (q : y s h Q E) : eIf c x y s h Q E := hc _ q
end TL

set_option maxHeartbeats 4000000
namespace TL
open PySem PySem.Spec PyProof.Rows L2
structure FnE (P : Program) (w : World) (K : PySem.W.Frag) (mg : Str → Option Value) (base : Heap) (k : Nat) (f : Addr) (fd : FuncData) (ps : List Str) (p : Addr × Obj) (sp : Sp) : Prop where
  ln : ∀ {vs : List V} {H : Hp} {Q : VK} {E : XK}, sp vs H Q E → vs.length = ps.length
  go : ∀ {A : Around} {outer : List Env} {s : Shared} {H : Hp} {args : Args} {us : List Value} {vs : List V} {Q : VK} {E : XK},
    L2H.RoomH k A → A.handled = some (.ref p.1) → L2H.PinOk outer H s p → Env0 P w K mg base A outer s H → BindsTo s fd args (ps.zip us) → Vals vs us → sp vs H Q E →
    codeAny (model P w) A (.call (.ref f) args) (CR (L2.CX P w) outer P w H s Q E) s
theorem FnE.mono {P : Program} {w : World} {K : PySem.W.Frag} {mg : Str → Option Value} {base : Heap} {j k : Nat} {f : Addr} {fd : FuncData} {ps : List Str} {p : Addr × Obj} {sp : Sp} (F : FnE P w K mg base j f fd ps p sp) (h : j ≤ k) : FnE P w K mg base k f fd ps p sp :=
  ⟨F.ln, fun r => F.go (r.mono h)⟩
theorem cx_suite {CX : CXT} {P : Program} {w : World} {K : PySem.W.Frag} {mg : Str → Option Value} {base : Heap} {N : List Str} {qual : Str} {scope : Scope} {f : Addr} {cd : Value} {A : Around} {outer : List Env} {s : Shared} {H : Hp} {E : XK} {p : Addr × Obj} (hh : A.handled = some (.ref p.1)) :
    (cxOf CX P w K mg base N qual scope f cd A outer s H E).suite p.1 [p] = (L2H.cxH CX P w K mg base N qual scope f cd A outer s H E p).wish (fun _ _ => False) := by
  cases A
  cases hh
  rfl
theorem fnE_of {P : Program} {w : World} {K : PySem.W.Frag} {mg : Str → Option Value} {base : Heap} {k : Nat} {x qual : Str} {st : Stmt} {f : Addr} {fd : FuncData} {N ps : List Str} {p : Addr × Obj} {sp : Sp} (F : Fun K x qual st f fd) (S : FnScope N ps (defScope st))
    (ln : ∀ {vs : List V} {H : Hp} {Q : VK} {E : XK}, sp vs H Q E → vs.length = ps.length)
    (body : ∀ (cdv : Value) (A : Around) (outer : List Env) (s : Shared) (H : Hp) (vs : List V) (Q : VK) (E : XK), L2H.RoomH k (A.deeper (envOfC qual (defScope st) s.heap.objs.size f cdv)) → sp vs H Q E →
      ∃ t, PSs ((cxOf (L2.CX P w) P w K mg base N qual (defScope st) f cdv A outer s H E).suite p.1 [p]) (defBody st) t ∧ t { nx := fun _ H' => Q .non H', rt := Q } (L2.start N vs) H) : FnE P w K mg base (k + 1) f fd ps p sp := by
  obtain ⟨oc, od, kV, doc, pm, an, cdv, ct, osl, efd, look, code⟩ := F.ex
  cases efd
  refine ⟨ln, fun {A outer s H args us vs Q E} room hh pin e0 bind vals hsp => ?_⟩
  have inK : K.In s.heap := e0.mod.kin.keeps fun b o e => (e0.bs b o e).1
  have kinds : ∀ y ∈ ps.zip us, (defScope st).names.lookup y.1 = some .local ∨ ((defScope st).names.lookup y.1 = some .cell ∧ ((cellsFrom (s.heap.objs.size + 1) (defScope st).names []).lookup y.1).isSome = true) := fun y hy => by
    have hm : y.1 ∈ ps := (List.of_mem_zip (show (y.1, y.2) ∈ ps.zip us from hy)).1
    exact (S.par y.1 hm).imp id fun c => ⟨c, PySem.W.cellsFrom_some _ _ _ (.inl c)⟩
  refine codeAny_call_function room.depth (inK _ _ look) rfl S.co S.gen rfl (PySem.W.codeRec_of inK code) (bind _ _ _ _ (wpAny_newFunctionEnv_cells S.kind kinds fun env he s1 x => ?_))
  cases he
  refine ⟨(e0.mod.nolimit.keeps fun b o e => (e0.bs b o e).1).keeps x.toInCall.keep, codeAny_func ?_⟩
  obtain ⟨t, ht, hq⟩ := body cdv A outer s H vs Q E (room.deeper _) hsp
  rw [cx_suite hh] at ht
  have I := (L2H.inv_startH (CX := L2.CX P w) (E := E) S pin e0 (ln hsp) vals x).wish (fun _ _ => False)
  refine wpAny_mono (ht.run [] s1 (L2.start N vs) H _ I hq) (fun fl s' hs => ?_) fun e s' z => z.elim
  cases fl with
  | ret u =>
    obtain ⟨v, σ', H', J, rv, q⟩ := hs
    exact ⟨v, H', J.os, J.bare, J.base, J.hok, rv, q⟩
  | next =>
    obtain ⟨σ', H', J, q⟩ := hs
    exact ⟨.non, H', J.os, J.bare, J.base, J.hok, rfl, q⟩
  | brk =>
    obtain ⟨_, _, _, q⟩ := hs
    exact q.elim
  | cont =>
    obtain ⟨_, _, _, q⟩ := hs
    exact q.elim
section
variable {X : Cx} {k n : Nat} {f : Addr} {fd : FuncData} {ps : List Str} {sp : Sp} {x : Str} {q pos : Pos} {e : Expr} {es : List Expr} {t : TA} {a : Addr} {oe : Obj} {pn : List (Addr × Obj)}
theorem pe_callE (F : FnE X.prog X.w X.K X.mg X.base k f fd ps (a, oe) sp) (hr : L2H.RoomH k X.A) (hg : Gl (X.suite a ((a, oe) :: pn)) x) (hm : X.mg x = some (.ref f)) (hk : PySem.W.keepIn X.K (.ref f) = true) (hb : Binds X.K fd ps []) (ha : PA (X.suite a ((a, oe) :: pn)) (e :: es) t)
    (hdb : (x == ("__debug__" : Str)) = false := by decide) (he : starEach (e :: es) X.env = (false, eval e X.env) :: starEach es X.env := by rfl) (hpl : (backTo pos (starEach es X.env)).any (·.1) = false := by rfl) :
    PE (X.suite a ((a, oe) :: pn)) (.Call (.Name x q) (e :: es) [] pos) (tCallS sp (fun _ _ _ _ => False) t) := by
  constructor
  intro pins s σ H Q I h
  refine wpAny_Call_Name_kw (ld_glob I hg hm (PySem.W.callWith_K (h₀ := X.base) I.ok.mod.kin hk (thn (ha.run pos pins s σ H _ I h) fun us s1 ⟨vs, H1, J, r, hsp⟩ => ⟨J.kIn, ?_⟩) he hpl) hdb)
  have len : us.length = ps.length := r.length.symm.trans (F.ln hsp)
  have b := hb s1 us J.kIn (by rw [List.append_nil]; exact len)
  rw [List.append_nil] at b
  obtain ⟨p1, p2, p3, p4, p5⟩ := J.pin (a, oe) (List.mem_append_left _ List.mem_cons_self)
  have pin : L2H.PinOk (X.suite a ((a, oe) :: pn)).stack H1 s1 (a, oe) := ⟨p1, p2, fun c => (List.mem_cons.mp (J.stkSub a c)).elim p3 p4, p5⟩
  refine wpAny_call (codeAny_mono (F.go (A := (X.suite a ((a, oe) :: pn)).A) ⟨hr.dp, hr.un⟩ rfl pin J.env0 b r hsp) fun res s' hq => ?_)
  cases res with
  | error z =>
    obtain ⟨_, _, _, _, _, _, _, _, _, _, _, _, bad⟩ := hq
    exact bad.elim
  | ok fl =>
    cases fl with
    | ret u => exact J.after hq
    | next => exact False.elim hq
    | brk => exact False.elim hq
    | cont => exact False.elim hq
end
def spE (K : PySem.W.Frag) (n : Nat) (c : Con) : Sp := fun vs H Q _ => liftSp K n c vs H Q fun _ _ _ => False
theorem fn_okE {P : Program} {w : World} {K : PySem.W.Frag} {mg : Str → Option Value} {base : Heap} {x qual : Str} {st : Stmt} {f : Addr} {fd : FuncData} {N ps : List Str} {k : Nat} {c : Con} {B : SM} {a : Addr} {oe : Obj} (F : Fun K x qual st f fd) (sc : FnScope N ps (defScope st)) (hl : ps.length ≤ N.length)
    (J : ∀ (cdv : Value) (A : Around) (outer : List Env) (s : Shared) (H : Hp) (E : XK), L2H.RoomH k (A.deeper (envOfC qual (defScope st) s.heap.objs.size f cdv)) →
      JSs ((cxOf (L2.CX P w) P w K mg base N qual (defScope st) f cdv A outer s H E).suite a [(a, oe)]) W0 (defBody st) B)
    (pl : ∀ ts h Q E, ts.length = ps.length → c ts h Q E → B (ends Q E) (startT N.length ts) h) : FnE P w K mg base (k + 1) f fd ps (a, oe) (spE K ps.length c) := by
  refine fnE_of F sc (fun {vs H Q E} z => by
    obtain ⟨S, h, ts, Q', E', m, r, l, _⟩ := z
    exact r.length.trans l) fun cdv A outer s H vs Q E hr z => ⟨_, J cdv A outer s H E hr, ?_⟩
  obtain ⟨S, h, ts, Q', E', m, r, l, q, pk, px⟩ := z
  refine ⟨S, h, startT N.length ts, ends Q' E', m, RepS.start (N := N) r (by rw [r.length, l]; exact hl), ?_, pl ts h Q' E' l q⟩
  exact { nx := fun S1 H1 h1 σ1 s1 f1 m1 r1 ⟨h2, z, q1⟩ => pk S1 H1 h2 _ _ f1 (m1.sub z) .non q1
          rt := fun S1 H1 h1 v u f1 m1 r1 ⟨h2, z, q1⟩ => pk S1 H1 h2 _ _ f1 (m1.sub z) r1 q1
          bk := fun _ _ _ _ _ _ _ _ z => z.elim
          ct := fun _ _ _ _ _ _ _ _ z => z.elim
          ex := fun S1 H1 h1 σ1 s1 x cls d f1 m1 r1 rx ⟨h2, z, q1⟩ => px S1 H1 h2 x cls d f1 (m1.sub z) rx q1 }
section
variable {X : Cx} {a : Addr} {oe : Obj} {pn : List (Addr × Obj)}
theorem j_callE {k n : Nat} {f : Addr} {fd : FuncData} {ps : List Str} {c : Con} {x : Str} {p pos : Pos} {e : Expr} {es : List Expr} {m : AM} (F : FnE X.prog X.w X.K X.mg X.base k f fd ps (a, oe) (spE X.K n c)) (hr : L2H.RoomH k X.A) (hg : Gl (X.suite a ((a, oe) :: pn)) x) (hm : X.mg x = some (.ref f))
    (hk : PySem.W.keepIn X.K (.ref f) = true) (hb : Binds X.K fd ps []) (ha : JA (X.suite a ((a, oe) :: pn)) W0 (e :: es) m)
    (hd : (x == ("__debug__" : Str)) = false := by decide) (he : starEach (e :: es) X.env = (false, eval e X.env) :: starEach es X.env := by rfl) (hpl : (backTo pos (starEach es X.env)).any (·.1) = false := by rfl) :
    JE (X.suite a ((a, oe) :: pn)) W0 (.Call (.Name x p) (e :: es) [] pos) (eCall n c m) := PE.wk (pe_callE F hr hg hm hk hb ha hd he hpl) fun σ H Q' ⟨S, h, s, Q, E, mm, rs, lk, hm, pk⟩ =>
  ⟨S, h, s, _, E, mm, rs, lk, hm, fun S1 H1 h1 vs ts f1 m1 r1 ⟨l1, q1⟩ => ⟨S1, h1, ts, Q, _, m1, r1, l1, q1, pk.fut f1, fun S2 H2 h2 x cls d f2 m2 r2 q2 => lk S2 H2 h2 σ s x cls d (f1.trans f2) m2 (rs.fut (f1.trans f2)) r2 q2⟩⟩
end
theorem hu_ofH {A : Around} {k : Nat} (r : L2H.RoomH k A) : A.units + 1 < cLine := by have := r.un; omega
theorem unH {A : Around} {k : Nat} (r : L2H.RoomH k A) : A.units + 64 < cLine := by have := r.un; omega
def oPopAt : MT := fun x xs h Q => match x, xs with
  | .ref p, [.int i] => match h p with
    | some (.lst ts) => 0 ≤ i ∧ i < 2 ^ 62 ∧ (match ts[i.toNat]? with
      | some y => Q y (put h p (.lst (ts.eraseIdx i.toNat)))
      | none => False)
    | _ => False
  | _, _ => False
theorem c_popAt {K : PySem.W.Frag} : MR K rPopAt oPopAt := fun S H h v vs x xs Q Q' m r1 r2 q pk => by
  unfold oPopAt at q
  split at q
  · split at q
    · rename_i p i _ ts e
      cases r1
      cases r2 with
      | cons r2 rn =>
        cases rn
        cases r2
        obtain ⟨i0, i1, q⟩ := q
        obtain ⟨us, e1, r⟩ := ref_lst m e
        split at q
        · rename_i y ey
          obtain ⟨u, eu, ru⟩ := r.get ey
          have lt : i.toNat < us.length := (List.getElem?_eq_some_iff.mp eu).1
          have ix : ixN us.length i = some i.toNat := by
            unfold ixN
            rw [if_pos i0, if_pos (by omega)]
          have f : Fut S H S (upd H p (.lst (us.eraseIdx i.toNat))) := fut_upd (m.nS' e)
          have re : RepL K S H (us.eraseIdx i.toNat) (ts.eraseIdx i.toNat) := by
            rw [List.eraseIdx_eq_take_drop_succ, List.eraseIdx_eq_take_drop_succ]
            exact (r.take _).append (r.drop _)
          exact ⟨_, us, i, _, u, rfl, rfl, e1, by omega, by omega, (ixN_seq ix).1, eu, pk S _ _ _ _ f (m.write (o' := .lst (ts.eraseIdx i.toNat)) e ⟨_, rfl, re⟩) (ru.fut f) q⟩
        · exact q.elim
    · exact q.elim
  · exact q.elim
def oLenD : RLT := fun xs h Q => match xs with
  | [.ref p] => match h p with
    | some (.dK gs) => Q (.int gs.length) h
    | _ => False
  | _ => False
theorem c_lenD {K : PySem.W.Frag} : CP K (fun xs H Q => ∃ a kvs, xs = [V.ref a] ∧ H a = some (.dK kvs) ∧ Q (.int kvs.length) H) oLenD := fun S H h vs xs Q Q' m r q pk => by
  unfold oLenD at q
  split at q
  · split at q
    · rename_i p _ gs e
      cases r with
      | cons r1 rn =>
        cases rn
        cases r1
        obtain ⟨u, e1, kvs, e2, rd⟩ := m.ob p _ e
        subst e2
        have ln : kvs.length = gs.length := by have := congrArg List.length rd.1; rw [List.length_map, List.length_map] at this; exact this
        refine ⟨p, kvs, rfl, e1, ?_⟩
        rw [ln]
        exact pk S H h _ _ Fut.refl m (.int _) q
    · exact q.elim
  · exact q.elim
theorem ev_lenD {s : Sl} {h : Hq} {E : EX} {m : EM} {p : Addr} {gs : List (Key × T)} (hx : Ev s h E m (.ref p)) (hp : h p = some (.dK gs)) : Ev s h E (eCB oLenD (aCons m aNil)) (.int gs.length) := fun Q q => hx _ (by
  show (match h p with | some (.dK gs) => Q (.int gs.length) h | _ => False)
  rw [hp]
  exact q)
def rIs2T (K : PySem.W.Frag) (a : Addr) (cls : Value) (d : Option Addr) : List V → Hp → VK → Prop := fun xs H Q => ∃ (tp : Addr) (cs : List Addr) (D : Addr) (b : Bool), xs = [.ref a, .ref tp] ∧ SqT K H tp (cs.map V.ref) ∧ cls = .ref D ∧ ExcC K D ∧ PySem.W.kitAny K (.ref D) (cs.map Value.ref) = some b ∧ (d = none ∨ ∃ dd fs, d = some dd ∧ H dd = some (.xd fs)) ∧ Q (.bl b) H
theorem refs_eq : ∀ {cs : List Addr} {us : List Value}, Vals (cs.map V.ref) us → us = cs.map Value.ref
  | [], _, .nil => rfl
  | c :: cs, _, .cons r t => by
    have h : _ = Value.ref c := r
    rw [h, refs_eq t]
    rfl
section
variable {X : Cx} {a : Addr} {oe : Obj} {cls : Value} {d : Option Addr} {pn : List (Addr × Obj)}
theorem call_is2T (hz : Zc cls d oe) (hf : ∃ vs, oe.data = .fields vs) : CallR (X.suite a ((a, oe) :: pn)) (.builtin "isinstance") (rIs2T X.K a cls d) := by
  intro pins s σ H xs us Q I r h
  obtain ⟨tp, cs, D, b, rfl, hT, rfl, C, e, hd, q⟩ := h
  obtain ⟨u1, u2, rfl, r1, r2⟩ := vals2 r
  cases (show u1 = Value.ref a from r1)
  cases (show u2 = Value.ref tp from r2)
  have hget := (I.pin (a, oe) (List.mem_append.mpr (.inl List.mem_cons_self))).1
  obtain ⟨vs, hv⟩ := hf
  have J : ∃ od, PySem.W.InstAt s.heap a oe D od := by
    obtain ⟨oc, od, oda, osl⟩ := oe
    obtain ⟨z1, z2⟩ := hz
    dsimp only at z1 z2 hv
    subst z1 z2 hv
    rcases hd with rfl | ⟨dd, fs, rfl, e2⟩
    · exact ⟨none, hget, rfl, rfl, trivial⟩
    · obtain ⟨mA, hns, _⟩ := (show ObjOk X.prog X.w H s.heap dd (.xd fs) from I.hok dd _ e2)
      obtain ⟨od, ho, _⟩ := lookIn_ns hns
      exact ⟨some od, hget, rfl, rfl, ho⟩
  obtain ⟨od, J⟩ := J
  have known : (PySem.W.clsIn X.K D).isSome = true := by
    obtain ⟨cd, hc, _⟩ := PySem.W.any_some C.hd
    rw [hc]
    rfl
  obtain ⟨its, rv, p1, _⟩ := I.tuple hT
  obtain ⟨o, h1, h2, n, h3⟩ := p1
  obtain ⟨qc, qd, qt, ql⟩ := o
  dsimp only at h2 h3
  subst h2 h3
  rw [refs_eq rv] at h1
  exact PySem.W.kia_tup (PySem.W.kitx_exc known C.hg C.hk C.hs C.ha C.hn C.ht C.hm) I.kIn J h1 e (fun z => nomatch z) fun tk => ⟨.bl b, H, I.kept (t' := tk) fun _ _ z => z, rfl, q⟩
end
def oIsE2 (K : PySem.W.Frag) (a : Addr) (cls : Value) (d : Option Addr) : RLT := fun xs h Q => match xs with
  | [.exc a' _ d' _, .tup ts] => a' = a ∧ d' = d ∧ ∃ (cs : List Addr) (D : Addr) (b : Bool), ts = cs.map T.ref ∧ cls = .ref D ∧ ExcC K D ∧ PySem.W.kitAny K (.ref D) (cs.map Value.ref) = some b ∧ Q (.bl b) h
  | _ => False
theorem refs_rep {K : PySem.W.Frag} {S : Fz} {H : Hp} : ∀ {cs : List Addr} {vs : List V}, RepL K S H vs (cs.map T.ref) → vs = cs.map V.ref
  | [], _, r => by cases r; rfl
  | c :: cs, _, r => by
    cases r with
    | cons r1 rn =>
      cases r1
      rw [refs_rep rn]
      rfl
theorem c_isE2 {K : PySem.W.Frag} {a : Addr} {cls : Value} {d : Option Addr} : CP K (rIs2T K a cls d) (oIsE2 K a cls d) := fun S H h vs xs Q Q' m r q pk => by
  unfold oIsE2 at q
  split at q
  · obtain ⟨rfl, rfl, cs, D, b, ec, hC, C, e, q⟩ := q
    subst ec
    cases r with
    | cons r1 r =>
      cases r with
      | cons r2 r =>
        cases r
        obtain ⟨tp, us, rfl, sq, rl⟩ := rep_tup r2
        have eu := refs_rep rl
        subst eu
        cases r1 with
        | exc s1 e1 _ => exact ⟨tp, cs, D, b, rfl, sq, hC, C, e, .inr ⟨_, _, rfl, e1⟩, pk S H h _ _ Fut.refl m (.bl b) q⟩
        | exc0 => exact ⟨tp, cs, D, b, rfl, sq, hC, C, e, .inl rfl, pk S H h _ _ Fut.refl m (.bl b) q⟩
  · exact q.elim
theorem ev_isE2 {K : PySem.W.Frag} {ea C D1 D2 : Addr} {ed : Option Addr} {gs : List (Str × T)} {x y : EM} {b1 b2 : Bool} {s : Sl} {h : Hq} {E : EX} (hx : Ev s h E x (.exc ea (.ref C) ed gs)) (hC : ExcC K C) (h1 : PySem.W.kitOne K (.ref C) (.ref D1) = some b1) (h2 : PySem.W.kitOne K (.ref C) (.ref D2) = some b2) (hy : Ev s h E y (.tup [.ref D1, .ref D2])) : Ev s h E (eCB (oIsE2 K ea (.ref C) ed) (aCons x (aCons y aNil))) (.bl (b1 || b2)) := fun Q q => hx _ (hy _ ⟨rfl, rfl, [D1, D2], C, b1 || b2, rfl, rfl, hC, kitAny_cons h1 (fun _ => kitAny_cons h2 (fun z => by subst z; rename_i z1; subst z1; exact kitAny_nil) (fun z => by subst z; rename_i z1; subst z1; rfl)) (fun z => by subst z; rfl), q⟩)
end TL

set_option maxHeartbeats 1000000
namespace TL
open PySem PySem.Spec PySem.Calls PyProof.Rows L2 GenW

abbrev Ix := Shared × List (Addr × Obj)
abbrev reX (X : Cx) (xe : Ix → Value → Shared → Prop) (i : Ix) : Cx := { X with s_0 := i.1, xe := xe i, pn := X.pn ++ i.2 }
structure Tk where
  L : Addr
  ws : List Addr
  n0 : Nat
  Vp : Shared → Prop
  C : List V → Heap → Prop
abbrev rebase (u : Shared) (L : Addr) (o : Obj) : Shared := { u with heap := u.heap.update L fun _ => o }
structure Slp (T : Tk) (base : Heap) (outer : List Env) (u s s' : Shared) : Prop where
  os : s'.os = s.os
  bare : AllBare s'.gens
  keep : ∀ b o, b ≠ T.L → b ∉ T.ws → s.heap.get? b = some o → s'.heap.get? b = some o
  own : ∀ b ∈ T.ws, ∃ o, s'.heap.get? b = some o ∧ ∀ v, o.data ≠ .cell v
  fr : s'.heap.FunFrames base outer
  vp : ∃ o, s'.heap.get? T.L = some o ∧ T.Vp (rebase u T.L o)
theorem pinsAt_fst {h : Heap} : ∀ {ws : List Addr}, (∀ b ∈ ws, ∃ o, h.get? b = some o) → (pinsAt ws h).map (·.1) = ws
  | [], _ => rfl
  | b :: ws, k => by
    obtain ⟨o, e⟩ := k b List.mem_cons_self
    have := pinsAt_fst (h := h) (ws := ws) fun c hc => k c (List.mem_cons_of_mem _ hc)
    unfold pinsAt at this ⊢
    rw [List.filterMap_cons, e]
    show b :: _ = _
    rw [this]
theorem funs_rebase {h h' base : Heap} {L : Addr} {o o₁ : Obj} (hL : h'.get? L = some o) (hu : h.get? L = some o₁) : ∀ {l : List Env}, h.FunFrames base l → h'.FunFrames base l → (h.update L fun _ => o).FunFrames base l
  | [], _, _ => trivial
  | env :: r, ⟨hk, ⟨M, oM, hf, hn, ho, hd⟩, hr⟩, ⟨_, ⟨M', oM', hf', _, ho', hd'⟩, hr'⟩ => by
    refine ⟨hk, ?_, funs_rebase hL hu hr hr'⟩
    rw [hf] at hf'
    cases hf'
    by_cases e : M = L
    · subst e
      rw [hL] at ho'
      cases ho'
      exact ⟨M, o, hf, hn, Heap.get?_update_self _ hu (Heap.get?_some_iff.mp hL).2, hd'⟩
    · exact ⟨M, oM, hf, hn, (Heap.get?_update_other _ _ (Ne.symm e)).trans ho, hd⟩
structure TkOk (X : Cx) (T : Tk) : Prop where
  pn : ∀ p ∈ X.pn, p.1 ≠ T.L ∧ p.1 ∉ T.ws
  lb : X.base.get? T.L = none
  l0 : X.H_0 T.L = none
  cells : ∀ x c, X.env.cells.lookup x = some c → c ≠ T.L
  young : ∀ b ∈ T.ws, T.n0 ≤ b
  ex : X.ex = []
  st : ∀ ys (h h' : Heap), (∀ b ∈ T.ws, h.get? b = h'.get? b) → T.C ys h → T.C ys h'
def GIy (X : Cx) (xe : Ix → Value → Shared → Prop) (T : Tk) (ip : List (Addr × Obj)) (ys : List V) (σ : L2.St) (H : Hp) (s : Shared) : Prop :=
  ∃ cp u, cp.map (·.1) = T.ws ∧ Inv (reX X xe (u, cp)) (cp ++ ip) σ H s ∧ T.Vp u ∧ T.C ys s.heap ∧ (∃ o, u.heap.get? T.L = some o) ∧ u.heap.objs.size = T.n0
theorem woken {X : Cx} {xe : Ix → Value → Shared → Prop} {T : Tk} {ip cp : List (Addr × Obj)} {u s s' : Shared} {σ : L2.St} {H : Hp} (k : TkOk X T) (hip : ∀ p ∈ ip, p.1 ≠ T.L ∧ p.1 ∉ T.ws) (hcp : cp.map (·.1) = T.ws) (I : Inv (reX X xe (u, cp)) (cp ++ ip) σ H s)
    (hu : ∃ o, u.heap.get? T.L = some o) (hn : u.heap.objs.size = T.n0) (z : Slp T X.base X.outer u s s') :
    ∃ cp' u', cp'.map (·.1) = T.ws ∧ Inv (reX X xe (u', cp')) (cp' ++ ip) σ H s' ∧ T.Vp u' ∧ (∃ o, u'.heap.get? T.L = some o) ∧ u'.heap.objs.size = T.n0 := by
  obtain ⟨o₁, hu⟩ := hu
  obtain ⟨z1, z2, z3, z4, z5, o, hL, hV⟩ := z
  have hfr : o.isFreed = false := (Heap.get?_some_iff.mp hL).2
  have uL : (u.heap.update T.L fun _ => o).get? T.L = some o := Heap.get?_update_self _ hu hfr
  have uo : ∀ b, b ≠ T.L → (u.heap.update T.L fun _ => o).get? b = u.heap.get? b := fun b hb => Heap.get?_update_other _ _ (Ne.symm hb)
  have us : (u.heap.update T.L fun _ => o).objs.size = u.heap.objs.size := Heap.size_update _ _ _
  have nx : ∀ b, b ∉ (reX X xe (u, cp)).ex := fun b hb => by rw [show (reX X xe (u, cp)).ex = [] from k.ex] at hb; cases hb
  have HL : H T.L = none := I.base.free T.L o₁ hu k.l0 (nx _)
  have Ll : T.L ≠ X.env.locals := Nat.ne_of_lt (Nat.lt_of_lt_of_le (Heap.lt_size hu) I.ok.above)
  have wsp : ∀ b ∈ T.ws, ∃ p ∈ cp, p.1 = b := fun b hb => by
    rw [← hcp] at hb
    obtain ⟨p, hp, e⟩ := List.mem_map.mp hb
    exact ⟨p, hp, e⟩
  have pcp : ∀ p ∈ cp, s.heap.get? p.1 = some p.2 ∧ H p.1 = none ∧ p.1 ≠ X.env.locals ∧ p.1 ∉ X.fs ∧ ∀ v, p.2.data ≠ .cell v := fun p hp => I.pin p (List.mem_append_right _ (List.mem_append_left _ hp))
  have wsn : ∀ b ∈ T.ws, H b = none ∧ b ≠ X.env.locals ∧ b ∉ X.fs := fun b hb => by
    obtain ⟨p, hp, e⟩ := wsp b hb
    subst e
    exact ⟨(pcp p hp).2.1, (pcp p hp).2.2.1, (pcp p hp).2.2.2.1⟩
  have wsc : ∀ x c, X.env.cells.lookup x = some c → c ∉ T.ws := fun x c hc hb => by
    obtain ⟨p, hp, e⟩ := wsp c hb
    subst e
    obtain ⟨v, oc, ho, hd⟩ := I.cell x _ hc
    rw [(pcp p hp).1] at ho
    cases ho
    exact (pcp p hp).2.2.2.2 v hd
  have old : ∀ b o', u.heap.get? b = some o' → b ∉ T.ws := fun b o' e hb => by
    have h1 := Heap.lt_size e
    have h2 := k.young b hb
    rw [hn] at h1
    exact absurd (Nat.lt_of_lt_of_le h1 h2) (Nat.lt_irrefl _)
  have lk : ∀ o', s.heap.get? X.env.locals = some o' → s'.heap.get? X.env.locals = some o' := fun o' e => z3 _ o' (Ne.symm Ll) (fun hb => (wsn _ hb).2.1 rfl) e
  have ck : ∀ x c, X.env.cells.lookup x = some c → ∀ v, s.heap.IsCell c v → s'.heap.IsCell c v := fun x c hc v ⟨oc, ho, hd⟩ => ⟨oc, z3 c oc (k.cells x c hc) (wsc x c hc) ho, hd⟩
  have nt : ∀ b w, H b = some w → b ≠ T.L ∧ b ∉ T.ws := fun b w e => ⟨fun y => (by rw [y, HL] at e; cases e), fun y => (by rw [(wsn b y).1] at e; cases e)⟩
  have bs' : ∀ b o', X.base.get? b = some o' → b ≠ T.L := fun b o' e y => by rw [y, k.lb] at e; cases e
  refine ⟨pinsAt T.ws s'.heap, rebase u T.L o, pinsAt_fst fun b hb => (z4 b hb).imp fun _ q => q.1, ?_, hV, ⟨o, uL⟩, us.trans hn⟩
  refine ⟨⟨I.ok.mod, I.ok.kind, I.ok.glob, I.ok.blt, ?_, I.ok.inj, I.ok.has, fun x c h1 h2 => ?_, I.ok.hd, I.ok.frames, I.ok.stk, I.ok.exf, fun b o' e => ?_, ?_, I.ok.noex, I.ok.exfs, ?_, I.ok.frf⟩, ?_, z2, ⟨fun b o' e n hb hx => ?_, fun b o' e n hb hx => ?_, fun b o' e n hx => ?_, fun b o' e hx => ?_, I.base.tups, I.base.frzs, I.base.tbls⟩, ?_, fun x c hc => ?_, I.free, I.freeC, fun p hp => ?_, fun b w e => ?_, I.len⟩
  · show (u.heap.update T.L fun _ => o).objs.size ≤ _
    rw [us]; exact I.ok.above
  · show (u.heap.update T.L fun _ => o).objs.size ≤ _
    rw [us]; exact I.ok.cab x c h1 h2
  · refine ⟨?_, (I.ok.bs b o' e).2⟩
    show (u.heap.update T.L fun _ => o).get? b = _
    rw [uo b (bs' b o' e)]; exact (I.ok.bs b o' e).1
  · show _ ≤ (u.heap.update T.L fun _ => o).objs.size
    rw [us]; exact I.ok.bsz
  · exact funs_rebase hL hu I.ok.funs z5
  · exact z1.trans I.os
  · have e : (u.heap.update T.L fun _ => o).get? b = some o' := e
    by_cases y : b = T.L
    · subst y
      rw [uL] at e
      cases e
      exact hL
    · rw [uo b y] at e
      exact z3 b o' y (old b o' e) (I.base.keep b o' e n hb hx)
  · have e : (u.heap.update T.L fun _ => o).get? b = some o' := e
    by_cases y : b = T.L
    · subst y
      rw [uL] at e
      cases e
      exact ⟨_, hL⟩
    · rw [uo b y] at e
      obtain ⟨sl, q⟩ := I.base.slot b o' e n hb hx
      exact ⟨sl, z3 b _ y (old b o' e) q⟩
  · have e : (u.heap.update T.L fun _ => o).get? b = some o' := e
    by_cases y : b = T.L
    · subst y; exact HL
    · rw [uo b y] at e
      exact I.base.free b o' e n hx
  · have e : (u.heap.update T.L fun _ => o).get? b = some o' := e
    by_cases y : b = T.L
    · subst y; exact ⟨o, hL⟩
    · rw [uo b y] at e
      obtain ⟨o2, q⟩ := I.base.there b o' e hx
      exact ⟨o2, z3 b o2 y (old b o' e) q⟩
  · obtain ⟨m, ⟨od, es, ep, ho, r⟩, hl⟩ := I.loc
    refine ⟨m, ⟨od, es, ep, lk od ho, r⟩, fun i x v e1 e2 e3 => ?_⟩
    obtain ⟨w, rv, l⟩ := hl i x v e1 e2 e3
    refine ⟨w, rv, ?_⟩
    rcases l with l | ⟨k1, c, e, y⟩
    · exact .inl l
    · exact .inr ⟨k1, c, e, ck x c e _ y⟩
  · obtain ⟨v, y⟩ := I.cell x c hc
    exact ⟨v, ck x c hc v y⟩
  · have own : ∀ p ∈ pinsAt T.ws s'.heap, s'.heap.get? p.1 = some p.2 ∧ H p.1 = none ∧ p.1 ≠ X.env.locals ∧ p.1 ∉ X.fs ∧ ∀ v, p.2.data ≠ .cell v := fun p hp => by
      obtain ⟨hb, e⟩ := of_pinsAt hp
      obtain ⟨w1, w2, w3⟩ := wsn p.1 hb
      obtain ⟨o2, e2, d2⟩ := z4 p.1 hb
      rw [e] at e2
      cases e2
      exact ⟨e, w1, w2, w3, d2⟩
    rcases List.mem_append.mp hp with hp | hp
    · rcases List.mem_append.mp hp with hp | hp
      · obtain ⟨q1, q2⟩ := I.pin p (List.mem_append_left _ (List.mem_append_left _ hp))
        exact ⟨z3 _ _ (k.pn p hp).1 (k.pn p hp).2 q1, q2⟩
      · exact own p hp
    · rcases List.mem_append.mp hp with hp | hp
      · exact own p hp
      · obtain ⟨q1, q2⟩ := I.pin p (List.mem_append_right _ (List.mem_append_right _ hp))
        exact ⟨z3 _ _ (hip p hp).1 (hip p hp).2 q1, q2⟩
  · refine (I.hok b w e).stay (fun c v hc y => ?_) (fun _ y => y) fun _ _ y => y
    rcases hc with hc | hc
    · subst hc; exact z3 _ v (nt _ _ e).1 (nt _ _ e).2 y
    · exact z3 _ v (nt _ _ hc).1 (nt _ _ hc).2 y

def Vq (T : Tk) (i : Ix) : Prop := T.Vp i.1 ∧ i.2.map (·.1) = T.ws ∧ ∃ ys h, T.C ys h ∧ ∀ p ∈ i.2, h.get? p.1 = some p.2
theorem vq_of {X : Cx} {xe : Ix → Value → Shared → Prop} {T : Tk} {cp ip : List (Addr × Obj)} {u s : Shared} {σ : L2.St} {H : Hp} {ys : List V} (hcp : cp.map (·.1) = T.ws) (I : Inv (reX X xe (u, cp)) (cp ++ ip) σ H s) (hV : T.Vp u) (hC : T.C ys s.heap) : Vq T (u, cp) :=
  ⟨hV, hcp, ys, s.heap, hC, fun p hp => (I.pin p (List.mem_append_right _ (List.mem_append_left _ hp))).1⟩
def YY (X : Cx) (xe : Ix → Value → Shared → Prop) (T : Tk) : Protocol := fun n s₀ v s kap =>
  ∃ ys x ip cp u σ H, n + 1 + ys.length = sizeLine ∧ RelV x v ∧ cp.map (·.1) = T.ws ∧ Inv (reX X xe (u, cp)) (cp ++ ip) σ H s ∧ T.Vp u ∧ T.C ys s.heap ∧ (∃ o, u.heap.get? T.L = some o) ∧ u.heap.objs.size = T.n0 ∧
    ∀ s', Slp T X.base X.outer u s s' → T.C (ys ++ [x]) s'.heap → kap (.send .none) s'
def RY (X : Cx) (xe : Ix → Value → Shared → Prop) (T : Tk) (Q : List V → VK) (F : Value → Shared → Prop) : GenEnd := fun n s₀ r s => match r with
  | .ok (.ret w) => ∃ ys v ip σ H, n + ys.length = sizeLine ∧ GIy X xe T ip ys σ H s ∧ RelV v w ∧ Q ys v H
  | .ok _ => False
  | .error e => F e s
def SPy (X : Cx) (xe : Ix → Value → Shared → Prop) (T : Tk) (ip : List (Addr × Obj)) (D : GEnds) (ys : List V) (f : Flow) (s : Shared) : Prop :=
  match f with
  | .next => ∃ σ H, GIy X xe T ip ys σ H s ∧ D.nx ys σ H
  | .brk => ∃ σ H, GIy X xe T ip ys σ H s ∧ D.bk ys σ H
  | .cont => ∃ σ H, GIy X xe T ip ys σ H s ∧ D.ct ys σ H
  | .ret w => ∃ v σ H, GIy X xe T ip ys σ H s ∧ RelV v w ∧ D.rt ys v H
structure GCy (X : Cx) (T : Tk) (ip : List (Addr × Obj)) (A : Around) (c : Code) (fs : List Frame) (gd : Bool → Bool) : Prop where
  ok : TkOk X T
  ip : ∀ p ∈ ip, p.1 ≠ T.L ∧ p.1 ∉ T.ws
  over : A.over c fs = X.A
  split : splitAtGen fs = none
  guard : fs.any Frame.guarded = false
  gd : gd false = false
structure GKy (X : Cx) (xe : Ix → Value → Shared → Prop) (T : Tk) (ip : List (Addr × Obj)) (A : Around) (R : GenEnd) (c : Code) (fs : List Frame) (K : Flow → Sem PySem.Fin) (J : Value → Sem PySem.Fin) (D : GEnds) : Prop where
  ok : ∀ (n : Nat) (ys : List V) (s₀ s : Shared) (f : Flow), n + ys.length = sizeLine → SPy X xe T ip D ys f s → Seg (model X.prog X.w) A R (YY X xe T) n s₀ c (K f) fs s
  exc : ∀ (n : Nat) (s₀ : Shared) (e : Value) (s : Shared) (i : Ix), Vq T i → xe i e s → Seg (model X.prog X.w) A R (YY X xe T) n s₀ c (J e) fs s
structure GSy (X : Cx) (xe : Ix → Value → Shared → Prop) (st : Stmt) (t : TGn) : Prop where
  run : ∀ (A : Around) (T : Tk) (ip : List (Addr × Obj)) (R : GenEnd) (n : Nat) (ys : List V) (s₀ : Shared) (c : Code) (fs : List Frame) (K : Flow → Sem PySem.Fin) (J : Value → Sem PySem.Fin) (gd : Bool → Bool) (lv : List Value → List Value) (s : Shared) (σ : L2.St) (H : Hp) (D : GEnds),
    GCy X T ip A c fs gd → n + ys.length = sizeLine → GKy X xe T ip A R c fs K J D → GIy X xe T ip ys σ H s → t D ys σ H →
    Seg (model X.prog X.w) A R (YY X xe T) n s₀ c ((exec st X.env).wrap K J gd lv) fs s
structure GSys (X : Cx) (xe : Ix → Value → Shared → Prop) (st : List Stmt) (t : TGn) : Prop where
  run : ∀ (A : Around) (T : Tk) (ip : List (Addr × Obj)) (R : GenEnd) (n : Nat) (ys : List V) (s₀ : Shared) (c : Code) (fs : List Frame) (K : Flow → Sem PySem.Fin) (J : Value → Sem PySem.Fin) (gd : Bool → Bool) (lv : List Value → List Value) (s : Shared) (σ : L2.St) (H : Hp) (D : GEnds),
    GCy X T ip A c fs gd → n + ys.length = sizeLine → GKy X xe T ip A R c fs K J D → GIy X xe T ip ys σ H s → t D ys σ H →
    Seg (model X.prog X.w) A R (YY X xe T) n s₀ c ((execs st X.env).wrap K J gd lv) fs s
section
variable {X : Cx} {xe : Ix → Value → Shared → Prop} {st : Stmt} {rest : List Stmt}
theorem GSy.wk {t t' : TGn} (h : GSy X xe st t) (k : ∀ D ys σ H, t' D ys σ H → t D ys σ H) : GSy X xe st t' := ⟨fun A S ip R n ys s₀ c fs K J gd lv s σ H D g hn gk gi q => h.run A S ip R n ys s₀ c fs K J gd lv s σ H D g hn gk gi (k _ _ _ _ q)⟩
theorem GSys.wk {t t' : TGn} {st : List Stmt} (h : GSys X xe st t) (k : ∀ D ys σ H, t' D ys σ H → t D ys σ H) : GSys X xe st t' := ⟨fun A S ip R n ys s₀ c fs K J gd lv s σ H D g hn gk gi q => h.run A S ip R n ys s₀ c fs K J gd lv s σ H D g hn gk gi (k _ _ _ _ q)⟩
theorem C_stay {T : Tk} {cp ip ip' : List (Addr × Obj)} {cp' : List (Addr × Obj)} {u u' s s' : Shared} {σ σ' : L2.St} {H H' : Hp} {ys : List V} (k : TkOk X T) (hcp : cp.map (·.1) = T.ws) (I : Inv (reX X xe (u, cp)) (cp ++ ip) σ H s) (I' : Inv (reX X xe (u', cp')) (cp ++ ip') σ' H' s') (h : T.C ys s.heap) : T.C ys s'.heap := by
  refine k.st ys _ _ (fun b hb => ?_) h
  rw [← hcp] at hb
  obtain ⟨p, hp, e⟩ := List.mem_map.mp hb
  subst e
  rw [(I.pin p (List.mem_append_right _ (List.mem_append_left _ hp))).1, (I'.pin p (List.mem_append_right _ (List.mem_append_left _ hp))).1]
theorem sp_spy {T : Tk} {cp ip : List (Addr × Obj)} {u s s' : Shared} {σ : L2.St} {H : Hp} {D : GEnds} {ys : List V} {f : Flow} (k : TkOk X T) (hcp : cp.map (·.1) = T.ws) (I : Inv (reX X xe (u, cp)) (cp ++ ip) σ H s) (hV : T.Vp u) (hC : T.C ys s.heap) (hu : ∃ o, u.heap.get? T.L = some o) (hn : u.heap.objs.size = T.n0)
    (h : SP (reX X xe (u, cp)) (cp ++ ip) (D.at ys) f s') : SPy X xe T ip D ys f s' := by
  cases f with
  | next => obtain ⟨σ, H, I', q⟩ := h; exact ⟨σ, H, ⟨cp, u, hcp, I', hV, C_stay k hcp I I' hC, hu, hn⟩, q⟩
  | brk => obtain ⟨σ, H, I', q⟩ := h; exact ⟨σ, H, ⟨cp, u, hcp, I', hV, C_stay k hcp I I' hC, hu, hn⟩, q⟩
  | cont => obtain ⟨σ, H, I', q⟩ := h; exact ⟨σ, H, ⟨cp, u, hcp, I', hV, C_stay k hcp I I' hC, hu, hn⟩, q⟩
  | ret w => obtain ⟨v, σ, H, I', r1, q⟩ := h; exact ⟨v, σ, H, ⟨cp, u, hcp, I', hV, C_stay k hcp I I' hC, hu, hn⟩, r1, q⟩
theorem gy_ps {t : TS} (h : ∀ u, PS (reX X xe u) st t) : GSy X xe st (tPlain t) := by
  refine ⟨fun A T ip R n ys s₀ c fs K J gd lv s σ H D g hn k hI ht => ?_⟩
  obtain ⟨cp, u, hcp, I, hV, hC, hu, hn0⟩ := hI
  refine seg_wrap ?_
  rw [g.over]
  exact wpAny_mono ((h (u, cp)).run _ s σ H (D.at ys) I ht) (fun f s' hs => k.ok n ys s₀ s' f hn (sp_spy g.ok hcp I hV hC hu hn0 hs)) fun x s' hx => k.exc n s₀ x s' (u, cp) (vq_of hcp I hV hC) hx
theorem gys_nil : GSys X xe [] tG0 := by
  refine ⟨fun A T ip R n ys s₀ c fs K J gd lv s σ H D g hn k hI ht => ?_⟩
  exact seg_execs_nil (k.ok n ys s₀ s .next hn ⟨σ, H, hI, ht⟩)
theorem gys_cons {t v : TGn} (a : GSy X xe st t) (b : GSys X xe rest v) : GSys X xe (st :: rest) (tGThen t v) := by
  refine ⟨fun A T ip R n ys s₀ c fs K J gd lv s σ H D g hn k hI ht => ?_⟩
  refine seg_execs_cons ?_
  refine a.run A T ip R n ys s₀ c fs _ J gd lv s σ H { D with nx := fun ys' σ' H' => v D ys' σ' H' } g hn ⟨fun n' ys' s₀' s' f hn' hs => ?_, k.exc⟩ hI ht
  cases f with
  | next =>
    obtain ⟨σ', H', I', q⟩ := hs
    exact b.run A T ip R n' ys' s₀' c fs K J gd lv s' σ' H' D g hn' k I' q
  | brk => exact k.ok n' ys' s₀' s' .brk hn' hs
  | cont => exact k.ok n' ys' s₀' s' .cont hn' hs
  | ret w => exact k.ok n' ys' s₀' s' (.ret w) hn' hs
theorem gy_yield {e : Expr} {yp pos : Pos} {te : TE} (he : ∀ u, PE (reX X xe u) e te) (hco : X.env.scope.isCoroutine = false := by rfl) (hi : interactive X.env = false := by rfl) : GSy X xe (.Expr (.Yield (some e) yp) pos) (tGYield te) := by
  refine ⟨fun A T ip R n ys s₀ c fs K J gd lv s σ H D g hn k hI ht => ?_⟩
  obtain ⟨hlt, ht⟩ := ht
  obtain ⟨n, rfl⟩ : ∃ m, n = m + 1 := ⟨n - 1, by omega⟩
  obtain ⟨cp, u, hcp, I, hV, hC, hu, hn0⟩ := hI
  refine seg_Expr_Yield g.split g.gd g.guard ?_ hco hi
  rw [g.over]
  refine wpAny_mono ((he (u, cp)).run _ s σ H _ I ht) (fun v s' hv => ?_) fun x s' hx => k.exc _ s₀ x s' (u, cp) (vq_of hcp I hV hC) hx
  obtain ⟨x, H1, I1, rv, q⟩ := hv
  intro kap hk
  refine ⟨ys, x, ip, cp, u, σ, H1, hn, rv, hcp, I1, hV, C_stay g.ok hcp I I1 hC, hu, hn0, fun s'' z zC => hk .none s'' ?_⟩
  obtain ⟨cp', u', h1, h2, h3, h4, h5⟩ := woken g.ok g.ip hcp I1 hu hn0 z
  refine k.ok n (ys ++ [x]) s'' s'' .next ?_ ⟨σ, H1, ⟨cp', u', h1, h2, h3, zC, h4, h5⟩, q⟩
  rw [List.length_append, List.length_singleton]; omega

def tGFor (wi : TI) (g : TG) (tb : TGn) : TGn := fun D ys σ H => wi σ H fun J H1 => ∃ W : Nat → Nat → List V → L2.St → Hp → Prop, (∃ m, W 0 m ys σ H1) ∧ ∀ i m ys σ H, W i m ys σ H →
  (J.stop i H ∧ D.nx ys σ H) ∨ (J.go i H ∧ ∃ N : List V → L2.St → Hp → Prop, (∀ ys' σ' H', N ys' σ' H' → ∃ m', m' < m ∧ W (i + 1) m' ys' σ' H') ∧ ∀ x H', J.yld i H x H' → g x σ H' fun σ2 H2 => tb { D with nx := N, ct := N, bk := D.nx } ys σ2 H2)
section
variable {M : Model} {A : Around} {R : GenEnd} {Y : Protocol} {n : Nat} {s₀ s : Shared} {c : Code} {fs : List Frame} {env : Env} {K : Flow → Sem PySem.Fin} {J : Value → Sem PySem.Fin} {gd : Bool → Bool} {lv : List Value → List Value}
theorem seg_For {tg iter : Expr} {body orelse : List Stmt} {pos : Pos} (hs : ∀ x, foldedSetIterable iter env x = pure x)
    (h : wpAny M (A.over c fs) (eval iter env) (fun x s1 => wpAny M (A.over c fs) (pyIter x) (fun it s2 => ∀ p, Seg M A R Y n s₀ (.forLoop tg it body orelse env) (M.den (.forLoop tg it body orelse env))
      (.ret (fun r => ((match r with | .ok f => (.pure f : Sem Flow) | .error e => .raise e).onRaise (cameBack env)).wrap K J gd lv) none (gd false) (lv []) c p [] :: fs) s2) (fun x s' => Seg M A R Y n s₀ c (J x) fs s') s1) (fun x s' => Seg M A R Y n s₀ c (J x) fs s') s) :
    Seg M A R Y n s₀ c ((exec (.For tg iter body orelse pos) env).wrap K J gd lv) fs s := by
  rw [exec_For]
  refine seg_bind_wrap (wpAny_standAt ?_)
  refine seg_bind_wrap (wpAny_mono h (fun x s1 h1 => ?_) fun _ _ q => q)
  refine seg_bind_wrap (wpAny_of_eq (hs x) ?_)
  refine seg_bind_wrap (wpAny_standAt ?_)
  refine seg_bind_wrap (wpAny_holding (wpAny_mono h1 (fun it s2 h2 => ?_) fun _ _ q => q))
  exact seg_call h2
end
section
variable {prog : Program} {w : World} {A : Around} {R : GenEnd} {Y : Protocol} {n : Nat} {s₀ : Shared} {fs : List Frame} {s : Shared} {env : Env}
abbrev exLp (env : Env) (e : Value) : Sem PySem.Fin := (do noteFrame e env; theTreesLotGoes e : Sem Unit).wrap (fun _ => .raise e) .raise id id
theorem seg_forLoop {tg : Expr} {it : Value} {body : List Stmt}
    (h : wpAny (model prog w) (A.over (.forLoop tg it body [] env) fs) (pyNext it) (fun r s' => match r with
        | none => Seg (model prog w) A R Y n s₀ (.forLoop tg it body [] env) (.pure (.again (.block [] env))) fs s'
        | some v => wpAny (model prog w) (A.over (.forLoop tg it body [] env) fs) (letOwnedTupleGo tg it v) (fun _ s1 => wpAny (model prog w) (A.over (.forLoop tg it body [] env) fs) (assign tg env v) (fun _ s2 =>
            Seg (model prog w) A R Y n s₀ (.forLoop tg it body [] env) ((execs body env).wrap (fun f => match f with
            | .next | .cont => .pure (.again (.forLoop tg it body [] env))
            | .brk => .pure (.done .next)
            | .ret v => .pure (.done (.ret v))) (exLp env) id id) fs s2) (fun x s' => Seg (model prog w) A R Y n s₀ (.forLoop tg it body [] env) (exLp env x) fs s') s1) (fun x s' => Seg (model prog w) A R Y n s₀ (.forLoop tg it body [] env) (exLp env x) fs s') s')
      (fun x s' => Seg (model prog w) A R Y n s₀ (.forLoop tg it body [] env) (exLp env x) fs s') s) :
    Seg (model prog w) A R Y n s₀ (.forLoop tg it body [] env) ((model prog w).den (.forLoop tg it body [] env)) fs s := by
  show Seg _ A R Y n s₀ _ ((forTurn tg it body [] env).onRaise (fun x => do noteFrame x env; theTreesLotGoes x)) fs s
  have ex : ∀ x s', Seg (model prog w) A R Y n s₀ (.forLoop tg it body [] env) (exLp env x) fs s' → Seg (model prog w) A R Y n s₀ (.forLoop tg it body [] env) (((do noteFrame x env; theTreesLotGoes x : Sem Unit)).bind fun _ => .raise x) fs s' := fun x s' q => by
    rw [Sem.bind_eq_wrap]; exact q
  unfold forTurn
  rw [Sem.onRaise_eq_wrap]
  refine seg_bind_wrap (wpAny_standAt ?_)
  refine seg_bind_wrap (wpAny_onRaise (wpAny_mono h (fun r s' hr => ?_) fun x s' hx => wpAny_standAt (ex x s' hx)))
  cases r with
  | none => exact hr
  | some v =>
    refine seg_bind_wrap (wpAny_mono hr (fun _ s1 h1 => ?_) fun x s' hx => ex x s' hx)
    refine seg_bind_wrap (wpAny_mono h1 (fun _ s2 h2 => ?_) fun x s' hx => ex x s' hx)
    rw [Sem.bind_eq_wrap', Sem.wrap_wrap]
    exact Eq.mp (congrArg (fun t => Seg (model prog w) A R Y n s₀ (.forLoop tg it body [] env) t fs s2) (Sem.wrap_congr (execs body env) id id (fun f => by cases f <;> rfl) (fun e => (Sem.bind_eq_wrap _ _).symm))) h2
end

theorem gc_loopy {T : Tk} {ip : List (Addr × Obj)} {A : Around} {c c' : Code} {fs : List Frame} {gd : Bool → Bool} {k : Result → Sem PySem.Fin} {l kp : List Value} {p : Pos} (g : GCy X T ip A c fs gd) (hw : c'.weight = 0) (hu : c'.cUnits = 0) :
    GCy X T ip A c' (.ret k none (gd false) l c p kp :: fs) id where
  ok := g.ok
  ip := g.ip
  over := (over_loop hw hu).trans g.over
  split := by
    show (splitAtGen fs).map _ = none
    rw [g.split]; rfl
  guard := by
    show (gd false || fs.any Frame.guarded) = false
    rw [g.gd, g.guard]; rfl
  gd := rfl
theorem GCy.more {T : Tk} {ip ip' : List (Addr × Obj)} {A : Around} {c : Code} {fs : List Frame} {gd : Bool → Bool} (g : GCy X T ip A c fs gd) (h : ∀ p ∈ ip', p.1 ≠ T.L ∧ p.1 ∉ T.ws) : GCy X T ip' A c fs gd := ⟨g.ok, h, g.over, g.split, g.guard, g.gd⟩
theorem GIy.less {T : Tk} {ip pl : List (Addr × Obj)} {ys : List V} {σ : L2.St} {H : Hp} {s : Shared} (h : GIy X xe T (ip ++ pl) ys σ H s) : GIy X xe T ip ys σ H s ∧ ∀ p ∈ pl, s.heap.get? p.1 = some p.2 ∧ H p.1 = none := by
  obtain ⟨cp, u, hcp, I, r⟩ := h
  refine ⟨⟨cp, u, hcp, I.pins_of fun p hp => ?_, r⟩, fun p hp => ?_⟩
  · rcases List.mem_append.mp hp with hp | hp
    · exact I.pin p (List.mem_append_right _ (List.mem_append_left _ hp))
    · exact I.pin p (List.mem_append_right _ (List.mem_append_right _ (List.mem_append_left _ hp)))
  · have q := I.pin p (List.mem_append_right _ (List.mem_append_right _ (List.mem_append_right _ hp)))
    exact ⟨q.1, q.2.1⟩
theorem seg_cameBackY {T : Tk} {ip : List (Addr × Obj)} {A : Around} {R : GenEnd} {c : Code} {fs : List Frame} {K : Flow → Sem PySem.Fin} {J : Value → Sem PySem.Fin} {gd : Bool → Bool} {lv : List Value → List Value} {D : GEnds} {n : Nat} {s₀ s : Shared} {i : Ix} {e : Value}
    (g : GCy X T ip A c fs gd) (k : GKy X xe T ip A R c fs K J D) (hV : Vq T i) (h : cameBackBy (model X.prog X.w) X.A X.env (xe i) e s) :
    Seg (model X.prog X.w) A R (YY X xe T) n s₀ c (((Sem.raise e : Sem Flow).onRaise (cameBack X.env)).wrap K J gd lv) fs s := by
  show Seg _ _ _ _ _ _ _ (((cameBack X.env e).bind fun _ => (Sem.raise e : Sem Flow)).wrap K J gd lv) _ _
  rw [Sem.bind_eq_wrap, Sem.wrap_wrap]
  refine seg_wrap ?_
  rw [g.over]
  exact wpAny_mono h (fun _ s' hx => k.exc n s₀ e s' i hV hx) fun x s' hx => k.exc n s₀ x s' i hV hx
theorem gy_for {tg iter : Expr} {body : List Stmt} {pos : Pos} {wi : TI} {g : TG} {tb : TGn} (hp : ∀ u, PassesOwn (model X.prog X.w) X.A X.env (xe u)) (hc : X.calm = true) (hi : ∀ u, PI (reX X xe u) tg iter wi) (hg : ∀ u, PG (reX X xe u) tg g) (hb : GSys X xe body tb)
    (hs : ∀ x, foldedSetIterable iter X.env x = pure x := by intro _; rfl) : GSy X xe (.For tg iter body [] pos) (tGFor wi g tb) := by
  refine ⟨fun A T ip R n ys s₀ c fs K J gd lv s σ H D gc hn k hI ht => ?_⟩
  obtain ⟨cp, u, hcp, I, hV, hC, hu, hn0⟩ := hI
  refine seg_For hs ?_
  rw [gc.over]
  refine wpAny_mono ((hi (u, cp)).run _ s σ H _ I ht) (fun v s1 h1 => ?_) fun x s' hx => k.exc n s₀ x s' (u, cp) (vq_of hcp I hV hC) hx
  refine wpAny_mono h1 (fun itv s2 h2 p => ?_) fun x s' hx => k.exc n s₀ x s' (u, cp) (vq_of hcp I hV hC) hx
  obtain ⟨it, fp, tn, Jt, H2, e, I2, Tn, st2, f2, W, ⟨m0, w0⟩, turn⟩ := h2
  subst e
  have gl := fun (kk : Result → Sem PySem.Fin) => gc_loopy (k := kk) (c' := .forLoop tg (.ref it) body [] X.env) (l := lv []) (kp := []) (p := p) gc rfl rfl
  have hL1 : ∀ b ∈ fp, b ≠ T.L ∧ b ∉ T.ws := fun b hb => by
    obtain ⟨f0, f1, f3, f4, f5, f6⟩ := f2 b hb
    refine ⟨fun z => ?_, fun z => ?_⟩
    · obtain ⟨o, ho⟩ := hu
      rcases f4 with f4 | f4
      · rw [show (reX X xe (u, cp)).ex = [] from gc.ok.ex] at f4; cases f4
      · have := Heap.lt_size ho
        rw [← z] at this
        exact absurd (Nat.lt_of_lt_of_le this f4) (Nat.lt_irrefl _)
    · rw [← hcp] at z
      obtain ⟨q, hq, e⟩ := List.mem_map.mp z
      exact f6 q (List.mem_append_right _ (List.mem_append_left _ hq)) e
  have stat : ∀ {u' : Shared} {cp' : List (Addr × Obj)} {H' : Hp}, cp'.map (·.1) = T.ws → u'.heap.objs.size = T.n0 → (∀ b ∈ fp, H' b = none) → ∀ b ∈ fp, FpOk (reX X xe (u', cp')) (cp' ++ ip) H' b := fun {u' cp' H'} hcp' hn' hz b hb => by
    obtain ⟨f0, f1, f3, f4, f5, f6⟩ := f2 b hb
    refine ⟨hz b hb, f1, f3, ?_, f5, fun q hq => ?_⟩
    · rcases f4 with f4 | f4
      · exact .inl f4
      · refine .inr ?_
        show u'.heap.objs.size ≤ b
        rw [hn', ← hn0]; exact f4
    · have own : ∀ q ∈ cp', q.1 ≠ b := fun q hq e => (hL1 b hb).2 (by rw [← hcp', ← e]; exact List.mem_map.mpr ⟨q, hq, rfl⟩)
      rcases List.mem_append.mp hq with hq | hq
      · rcases List.mem_append.mp hq with hq | hq
        · exact f6 q (List.mem_append_left _ (List.mem_append_left _ hq))
        · exact own q hq
      · rcases List.mem_append.mp hq with hq | hq
        · exact own q hq
        · exact f6 q (List.mem_append_right _ (List.mem_append_right _ hq))
  have loop : ∀ (m n i : Nat) (ys : List V) (s₀ s : Shared) (σ : L2.St) (H : Hp), n + ys.length = sizeLine → W i m ys σ H → GIy X xe T ip ys σ H s → tn i s.heap → (∀ b ∈ fp, H b = none) →
      Seg (model X.prog X.w) A R (YY X xe T) n s₀ (.forLoop tg (.ref it) body [] X.env) ((model X.prog X.w).den (.forLoop tg (.ref it) body [] X.env))
        (.ret (fun r => ((match r with | .ok f => (.pure f : Sem Flow) | .error e => .raise e).onRaise (cameBack X.env)).wrap K J gd lv) none (gd false) (lv []) c p [] :: fs) s := by
    intro m
    induction m using Nat.strongRecOn with
    | ind m ih =>
      intro n i ys s₀ s σ H hn w hI st fr
      obtain ⟨cp, u, hcp, I, hV, hC, hu, hn0⟩ := hI
      have ee : ∀ (n : Nat) (s₀ : Shared) (x : Value) (s' : Shared) (i : Ix), Vq T i → xe i x s' → Seg (model X.prog X.w) A R (YY X xe T) n s₀ (.forLoop tg (.ref it) body [] X.env)
          (exLp X.env x)
          (.ret (fun r => ((match r with | .ok f => (.pure f : Sem Flow) | .error e => .raise e).onRaise (cameBack X.env)).wrap K J gd lv) none (gd false) (lv []) c p [] :: fs) s' := fun n s₀ x s' i hV hx => by
        refine seg_wrap ?_
        rw [(gl _).over]
        refine wpAny_bind (wpAny_mono (hp i x s' hx) (fun _ s'' hcb => wpAny_theTreesLotGoes ?_) fun y s'' hcb => ?_)
        · exact seg_leaf (.error x) (seg_cameBackY gc k hV hcb)
        · exact seg_leaf (.error y) (seg_cameBackY gc k hV hcb)
      refine seg_forLoop ?_
      rw [(gl _).over]
      rcases turn i m ys σ H w with ⟨stop, qn⟩ | ⟨go, N, hN, step⟩
      · refine wpAny_mono (Tn.done (reX X xe (u, cp)) rfl rfl rfl hc i _ s σ H (xe (u, cp)) I (stat hcp hn0 fr) st stop) (fun r s4 ⟨hr, I4⟩ => ?_) fun x s' hx => ee n s₀ x s' (u, cp) (vq_of hcp I hV hC) hx
        subst hr
        refine seg_again rfl ?_
        show Seg _ _ _ _ _ _ _ (leafOf (.ok .next)) _ _
        exact seg_leaf (.ok .next) (k.ok n ys s₀ s4 .next hn ⟨σ, H, ⟨cp, u, hcp, I4, hV, C_stay gc.ok hcp I I4 hC, hu, hn0⟩, qn⟩)
      · refine wpAny_mono (Tn.item (reX X xe (u, cp)) rfl rfl rfl hc i _ s σ H (xe (u, cp)) I (stat hcp hn0 fr) st go) (fun r s4 ⟨w4, hr, h4⟩ => ?_) fun x s' hx => ee n s₀ x s' (u, cp) (vq_of hcp I hV hC) hx
        subst hr
        refine wpAny_mono h4 (fun _ s5 ⟨x, H5, I5, r5, y5, st5, fr5⟩ => ?_) fun x s' hx => ee n s₀ x s' (u, cp) (vq_of hcp I hV hC) hx
        have I5' := I5.pinned (stat hcp hn0 fr5) (Tn.obj _ _ st5)
        rw [List.append_assoc] at I5'
        refine wpAny_mono ((hg (u, cp)).run _ s5 σ H5 x w4 _ I5' r5 (step x H5 y5)) (fun _ s6 ⟨σ6, H6, I6, q6⟩ => ?_) fun x s' hx => ee n s₀ x s' (u, cp) (vq_of hcp I hV hC) hx
        have C6 : T.C ys s6.heap := C_stay gc.ok hcp I5' I6 (C_stay gc.ok hcp I I5 hC)
        have again : ∀ {n' : Nat} {s₀' s7 : Shared} {ys7 : List V} {σ7 : L2.St} {H7 : Hp}, n' + ys7.length = sizeLine → GIy X xe T (ip ++ pinsAt fp s5.heap) ys7 σ7 H7 s7 → N ys7 σ7 H7 →
            Seg (model X.prog X.w) A R (YY X xe T) n' s₀' (.forLoop tg (.ref it) body [] X.env) (.pure (.again (.forLoop tg (.ref it) body [] X.env)))
              (.ret (fun r => ((match r with | .ok f => (.pure f : Sem Flow) | .error e => .raise e).onRaise (cameBack X.env)).wrap K J gd lv) none (gd false) (lv []) c p [] :: fs) s7 := fun {n' s₀' s7 ys7 σ7 H7} hn' I7 n7 => by
          obtain ⟨m', hm, w7⟩ := hN ys7 σ7 H7 n7
          obtain ⟨I8, pk⟩ := I7.less
          refine seg_again rfl (ih m' hm n' (i + 1) ys7 s₀' s7 σ7 H7 hn' w7 I8 (Tn.keep _ _ _ st5 fun b hb o e => (pk (b, o) (mem_pinsAt hb e)).1) fun b hb => ?_)
          obtain ⟨o, e, d⟩ := Tn.obj _ _ st5 b hb
          exact (pk (b, o) (mem_pinsAt hb e)).2
        refine hb.run A T (ip ++ pinsAt fp s5.heap) R n ys s₀ _ _ _ _ id id s6 σ6 H6 { D with nx := N, ct := N, bk := D.nx } ((gl _).more fun q hq => ?_) hn ⟨fun n' ys' s₀' s7 f hn' hs7 => ?_, fun n' s₀' x s7 u' hV' hx => ee n' s₀' x s7 u' hV' hx⟩ ⟨cp, u, hcp, I6, hV, C6, hu, hn0⟩ q6
        · rcases List.mem_append.mp hq with hq | hq
          · exact gc.ip q hq
          · exact hL1 q.1 (of_pinsAt hq).1
        cases f with
        | next => obtain ⟨σ7, H7, I7, n7⟩ := hs7; exact again hn' I7 n7
        | cont => obtain ⟨σ7, H7, I7, n7⟩ := hs7; exact again hn' I7 n7
        | brk => obtain ⟨σ7, H7, I7, n7⟩ := hs7; exact seg_leaf (.ok .next) (k.ok n' ys' s₀' s7 .next hn' ⟨σ7, H7, I7.less.1, n7⟩)
        | ret v => obtain ⟨v7, σ7, H7, I7, r7, n7⟩ := hs7; exact seg_leaf (.ok (.ret v)) (k.ok n' ys' s₀' s7 (.ret v) hn' ⟨v7, σ7, H7, I7.less.1, r7, n7⟩)
  exact loop m0 n 0 ys s₀ s2 σ H2 hn w0 ⟨cp, u, hcp, I2, hV, C_stay gc.ok hcp I I2 hC, hu, hn0⟩ st2 fun b hb => (f2 b hb).1
end
end TL

set_option maxHeartbeats 1000000
namespace TL
open PySem PySem.Spec PySem.Calls PyProof.Rows L2 GenW

structure TkAt (base : Heap) (H : Hp) (s s' s2 : Shared) (T : Tk) : Prop where
  lb : base.get? T.L = none
  l0 : H T.L = none
  lo : ∃ o, s.heap.get? T.L = some o
  n0 : T.n0 = s.heap.objs.size
  vp : T.Vp s
  c0 : T.C [] s2.heap
  own : ∀ b ∈ T.ws, s'.heap.objs.size ≤ b ∧ ∃ o, s2.heap.get? b = some o ∧ ∀ v, o.data ≠ .cell v
  st : ∀ ys (h h' : Heap), (∀ b ∈ T.ws, h.get? b = h'.get? b) → T.C ys h → T.C ys h'
def REndY (P : Program) (w : World) (outer : List Env) (H : Hp) (T : Tk) (a : Addr) (g : Nat) (Q : List V → Hp → Prop) (E : XK) : GenEnd := fun n s₀ r s1 =>
  ((r = .ok (.ret .none) ∨ r = .ok .next) ∧ ∃ H' ys u, T.Vp u ∧ s1.os = u.os ∧ AllBare s1.gens ∧ Un (frs outer) [] H H' u.heap s1.heap ∧ HOk P w H' s1.heap ∧ T.C ys s1.heap ∧ (∀ b ∈ T.ws, H' b = none ∧ ∃ o, s1.heap.get? b = some o) ∧ ys.length ≤ sizeLine ∧ Q ys H') ∨
  ∃ e, r = .error e ∧ ∃ u ys, T.Vp u ∧ CX P w outer H u (fun cls d H' => E cls d H' ∧ ∀ b ∈ T.ws, H' b = none) e s1 ∧ s1.heap.IsGen a g ∧ T.C ys s1.heap
def YItemY (P : Program) (w : World) (base : Heap) (outer : List Env) (H : Hp) (T : Tk) (a : Addr) (g : Nat) : Protocol := fun n s₀ v s1 kap =>
  ∃ ys x u H', n + 1 + ys.length = sizeLine ∧ RelV x v ∧ T.Vp u ∧ s1.os = u.os ∧ AllBare s1.gens ∧ s1.heap.NoLimit ∧ s1.heap.IsGen a g ∧ Un (frs outer) [] H H' u.heap s1.heap ∧ HOk P w H' s1.heap ∧ T.C ys s1.heap ∧ (∀ b ∈ T.ws, H' b = none ∧ ∃ o, s1.heap.get? b = some o) ∧
    (∃ o, u.heap.get? T.L = some o) ∧ ∀ s', Slp T base outer u s1 s' → T.C (ys ++ [x]) s'.heap → kap (.send .none) s'
def GMadeY (P : Program) (w : World) (base : Heap) (k : Nat) (outer : List Env) (H : Hp) (s : Shared) (Q : List V → Hp → Prop) (E : XK) (u : Value) (s' : Shared) : Prop :=
  ∃ (a : Addr) (g : Nat) (c : Code), u = .ref a ∧ s.heap.objs.size ≤ a ∧ a < s'.heap.objs.size ∧ s'.heap.IsGen a g ∧ s'.gens[g]? = some (.fresh c) ∧ s'.os = s.os ∧ AllBare s'.gens ∧ s'.heap.NoLimit ∧ (∀ b o, s.heap.get? b = some o → s'.heap.get? b = some o) ∧
    ∀ (A : Around) (T : Tk) (s2 : Shared), Room k A → A.frames = some outer → TkAt base H s s' s2 T → (∀ b o, s'.heap.get? b = some o → s2.heap.get? b = some o) → s2.os = s.os → AllBare s2.gens →
      Seg (model P w) A (REndY P w outer H T a g Q E) (YItemY P w base outer H T a g) sizeLine s2 c ((model P w).den c) [] s2
abbrev EPn (E : XK) (pn : List (Addr × Obj)) : XK := fun cls d H' => E cls d H' ∧ ∀ p ∈ pn, H' p.1 = none
theorem XE.pinned {X : Cx} {W : WX} {u : Value} {s' : Shared} (x : XE X W u s') : XE X (fun c d σ H => W c d σ H ∧ ∀ p ∈ X.pn, H p.1 = none) u s' := by
  obtain ⟨a, B, sI, pins, σ, H, cls, d, e, I, nb, up, sky, na, os, ag, w⟩ := x
  exact ⟨a, B, sI, pins, σ, H, cls, d, e, I, nb, up, sky, na, os, ag, w, fun p hp => (I.pin p (List.mem_append_left _ hp)).2.1⟩
abbrev xeG (P : Program) (w : World) (qual : Str) (scope : Scope) (f : Addr) (cd : Value) (A : Around) (outer : List Env) (n0 : Nat) (H : Hp) (E : XK) (pn : List (Addr × Obj)) : Ix → Value → Shared → Prop := fun i e s' =>
  wpAny (model P w) (A.deeper (envOfC qual scope n0 f cd)) (leaving (envOfC qual scope n0 f cd) e) (fun _ s'' => CX P w outer H i.1 (EPn E (pn ++ i.2)) e s'' ∧ ∀ p ∈ pn ++ i.2, s''.heap.get? p.1 = some p.2) (fun _ _ => False) s'
section
variable {P : Program} {w : World} {K : PySem.W.Frag} {mg : Str → Option Value} {base : Heap} {N : List Str} {qual : Str} {scope : Scope} {f : Addr} {cd : Value} {A : Around} {outer : List Env} {s : Shared} {H : Hp} {E : XK} {pn : List (Addr × Obj)}
abbrev gX (P : Program) (w : World) (K : PySem.W.Frag) (mg : Str → Option Value) (base : Heap) (N : List Str) (qual : Str) (scope : Scope) (f : Addr) (cd : Value) (A : Around) (outer : List Env) (s : Shared) (H : Hp) (E : XK) (pn : List (Addr × Obj)) (u : Ix) : Cx :=
  reX (gcxOf P w K mg base N qual scope f cd A outer s H E pn) (xeG P w qual scope f cd A outer s.heap.objs.size H E pn) u
theorem takes_gX : ∀ u, Takes (gX P w K mg base N qual scope f cd A outer s H E pn u) (fun cls d _ H' => E cls d H') := fun u v s' x =>
  XE.leaveG (X := gX P w K mg base N qual scope f cd A outer s H E pn u) (W := fun cls d _ H' => E cls d H' ∧ ∀ p ∈ pn ++ u.2, H' p.1 = none) (E := EPn E (pn ++ u.2)) rfl rfl rfl (fun _ _ _ _ h => h) (XE.pinned x)
theorem owns_gX : ∀ u, PassesOwn (model P w) (gX P w K mg base N qual scope f cd A outer s H E pn u).A (gX P w K mg base N qual scope f cd A outer s H E pn u).env (gX P w K mg base N qual scope f cd A outer s H E pn u).xe := fun u =>
  passes_of (X := gX P w K mg base N qual scope f cd A outer s H E pn u) (K := fun e s'' => CX P w outer H u.1 (EPn E (pn ++ u.2)) e s'' ∧ ∀ p ∈ pn ++ u.2, s''.heap.get? p.1 = some p.2) (E₁ := fun _ _ => False) rfl
end
structure GFnY (P : Program) (w : World) (K : PySem.W.Frag) (mg : Str → Option Value) (base : Heap) (k : Nat) (f : Addr) (fd : FuncData) (ps : List Str) (sp : SpG) : Prop where
  len : ∀ vs H Q E, sp vs H Q E → vs.length = ps.length
  run : ∀ (A : Around) (outer : List Env) (s : Shared) (H : Hp) (args : Args) (us : List Value) (vs : List V) (Q : List V → Hp → Prop) (E : XK), Room k A → Env0 P w K mg base A outer s H → BindsTo s fd args (ps.zip us) → Vals vs us → sp vs H Q E →
    codeAny (model P w) A (.call (.ref f) args) (fun r s' => match r with | .ok (.ret u) => GMadeY P w base k outer H s Q E u s' | _ => False) s
theorem gfnY_of {P : Program} {w : World} {K : PySem.W.Frag} {mg : Str → Option Value} {base : Heap} {k : Nat} {f : Addr} {name qual : Str} {params : Arguments} {body : List Stmt} {scope : Scope} {dV kV doc pm cdv ct oc : Value} {an od : Option Addr}
    {osl : Array (Option Value)} {N ps : List Str} {sp : SpG} (lk : K.lookup f = some ⟨oc, od, .func (PySem.W.fnOf name qual params body scope dV kV doc pm an cdv ct), osl⟩) (hcd : PySem.W.codeIn K cdv qual = true) (S : GScope N ps scope)
    (len : ∀ vs H Q E, sp vs H Q E → vs.length = ps.length)
    (hbody : ∀ (A : Around) (outer : List Env) (s : Shared) (H : Hp) (vs : List V) (Q : List V → Hp → Prop) (E : XK) (pn : List (Addr × Obj)), Room k (A.deeper (envOfC qual scope s.heap.objs.size f cdv)) → sp vs H Q E →
      ∃ t, GSys (gcxOf P w K mg base N qual scope f cdv A outer s H E pn) (xeG P w qual scope f cdv A outer s.heap.objs.size H E pn) body t ∧ t { nx := fun ys _ H' => Q ys H', rt := fun ys v H' => v = .non ∧ Q ys H' } [] (start N vs) H) :
    GFnY P w K mg base (k + 1) f (PySem.W.fnOf name qual params body scope dV kV doc pm an cdv ct) ps sp := by
  refine ⟨len, fun A outer s H args us vs Q E hr e0 hb r hsp => ?_⟩
  have hl := len _ _ _ _ hsp
  have KX : K.In s.heap := e0.mod.kin.keeps fun b o e => (e0.bs b o e).1
  have lim : s.heap.NoLimit := e0.mod.nolimit.keeps fun b o e => (e0.bs b o e).1
  have hkind : ∀ y ∈ ps.zip us, scope.names.lookup y.1 = some .local ∨ (scope.names.lookup y.1 = some .cell ∧ ((cellsFrom (s.heap.objs.size + 1) scope.names []).lookup y.1).isSome = true) := fun ⟨n, v⟩ hy => by
    rcases S.par n (List.of_mem_zip hy).1 with q | q
    · exact .inl q
    · exact .inr ⟨q, PySem.W.cellsFrom_some _ _ _ (.inl q)⟩
  refine codeAny_call_generator hr.depth (KX _ _ lk) rfl S.co S.gen rfl (PySem.W.codeRec_of KX hcd) (hb _ _ _ _ ?_)
  refine wpAny_newFunctionEnv_cells S.kind hkind fun env he s1 x => ?_
  subst he
  have lim1 : s1.heap.NoLimit := lim.keeps x.toInCall.keep
  refine ⟨lim1, ?_⟩
  obtain ⟨h1, tk, es1, hk1⟩ := x.done
  have os1 : s1.os = s.os := by rw [es1]
  have gen1 : s1.gens = s.gens := by rw [es1]
  have lt1 : s.heap.objs.size < s1.heap.objs.size := x.toInCall.ns.lt
  have sz1 : s.heap.objs.size ≤ s1.heap.objs.size := Nat.le_of_lt lt1
  have kp1 : ∀ b o, s.heap.get? b = some o → s1.heap.get? b = some o := x.toInCall.keep
  have main : ∀ (go : Obj) (nm qn : Value) (tk2 : Nat), go.cls = .type "generator" → go.data = .fields #[.int s1.gens.size 0, nm, qn] → go.slots = #[] → (∀ h : Heap, (h.push go).get? h.objs.size = some go) →
      GMadeY P w base (k + 1) outer H s Q E (.ref s1.heap.objs.size) { s1 with gens := s1.gens.push (.fresh (.func body (envOfC qual scope s.heap.objs.size f cdv))), toks := tk2, heap := s1.heap.push go } := by
    intro go nm qn tk2 hgc hgd0 hgs hgp
    have hgen : ∀ h : Heap, h.get? s1.heap.objs.size = some go → h.IsGen s1.heap.objs.size s1.gens.size := fun h e => ⟨go, nm, qn, e, hgc, hgd0, hgs⟩
    have hpushed : (s1.heap.push go).get? s1.heap.objs.size = some go := hgp _
    refine ⟨s1.heap.objs.size, s1.gens.size, _, rfl, sz1, ?_, hgen _ hpushed, Array.getElem?_push_size .., os1, ?_, lim1.keeps fun b o e => Heap.get?_push_of_some _ e, fun b o e => Heap.get?_push_of_some _ (kp1 b o e), ?_⟩
    · show _ < (s1.heap.push _).objs.size
      rw [Heap.size_push]; exact Nat.lt_succ_self _
    · exact AllBare.push (by rw [gen1]; exact e0.bare) rfl
    intro Aw T s2 hrw hfr tT hk2 hos hba
    have e0w : Env0 P w K mg base Aw outer s H := ⟨hfr, e0.mod, e0.bs, e0.bsz, e0.funs, e0.frf, e0.hok, e0.bare⟩
    obtain ⟨t, ht, hq⟩ := hbody Aw outer s H vs Q E [(s1.heap.objs.size, go)] (hrw.deeper _) hsp
    have I1 : Inv (gcxOf P w K mg base N qual scope f cdv Aw outer s H (EPn E ([(s1.heap.objs.size, go)] ++ pinsAt T.ws s2.heap)) []) [] (start N vs) H s1 := inv_startG S hrw.hd e0w hl r x
    have kp2 : ∀ b o, s1.heap.get? b = some o → s2.heap.get? b = some o := fun b o e => hk2 b o (Heap.get?_push_of_some _ e)
    have I2 : Inv (gcxOf P w K mg base N qual scope f cdv Aw outer s H (EPn E ([(s1.heap.objs.size, go)] ++ pinsAt T.ws s2.heap)) []) [] (start N vs) H s2 :=
      I1.call' (ch := []) (hos.trans os1.symm) (Un.kept kp2) (I1.hok.kept kp2) hba fun b z => by simp at z
    have hea : s2.heap.get? s1.heap.objs.size = some go := hk2 s1.heap.objs.size go hpushed
    have hgd : ∀ v, go.data ≠ .cell v := fun v q => by rw [hgd0] at q; cases q
    have young : ∀ b, s1.heap.objs.size ≤ b → H b = none ∧ b ≠ s.heap.objs.size ∧ b ∉ frs outer ∧ s.heap.objs.size ≤ b ∧ ∀ y c, (cellsFrom (s.heap.objs.size + 1) scope.names []).lookup y = some c → c ≠ b := fun b hb => by
      refine ⟨I1.hok.fresh hb, Nat.ne_of_gt (Nat.lt_of_lt_of_le lt1 hb), I1.nofs hb, Nat.le_trans sz1 hb, fun y c e z => ?_⟩
      obtain ⟨v, ob, ho, _⟩ := I1.cell y c e
      have := Heap.lt_size ho
      rw [z] at this
      exact absurd (Nat.lt_of_lt_of_le this hb) (Nat.lt_irrefl _)
    have wsy : ∀ b ∈ T.ws, s1.heap.objs.size < b := fun b hb => by
      have h1 : (s1.heap.push go).objs.size ≤ b := (tT.own b hb).1
      rw [Heap.size_push] at h1
      exact h1
    have Lold : T.L < s.heap.objs.size := tT.lo.elim fun o e => Heap.lt_size e
    have wso : ∀ b ∈ T.ws, ∃ o, s2.heap.get? b = some o := fun b hb => (tT.own b hb).2.imp fun _ q => q.1
    have hok : TkOk (gcxOf P w K mg base N qual scope f cdv Aw outer s H E [(s1.heap.objs.size, go)]) T := by
      refine ⟨fun p hp => ?_, tT.lb, tT.l0, fun x c e z => ?_, fun b hb => ?_, rfl, tT.st⟩
      · rw [List.mem_singleton.mp hp]
        exact ⟨Nat.ne_of_gt (Nat.lt_of_lt_of_le Lold sz1), fun z => absurd (wsy _ z) (Nat.lt_irrefl _)⟩
      · have h1 := I1.ok.cab x c rfl e
        have h2 : s.heap.objs.size ≤ c := h1
        rw [z] at h2
        exact absurd (Nat.lt_of_lt_of_le Lold h2) (Nat.lt_irrefl _)
      · rw [tT.n0]
        exact Nat.le_trans sz1 (Nat.le_of_lt (wsy b hb))
    have hG : GIy (gcxOf P w K mg base N qual scope f cdv Aw outer s H E [(s1.heap.objs.size, go)]) (xeG P w qual scope f cdv Aw outer s.heap.objs.size H E [(s1.heap.objs.size, go)]) T [] [] (start N vs) H s2 := by
      refine ⟨pinsAt T.ws s2.heap, s, pinsAt_fst wso, ?_, tT.vp, tT.c0, tT.lo, tT.n0.symm⟩
      have own : ∀ p ∈ pinsAt T.ws s2.heap, s2.heap.get? p.1 = some p.2 ∧ H p.1 = none ∧ p.1 ≠ s.heap.objs.size ∧ p.1 ∉ frs outer ∧ ∀ v, p.2.data ≠ .cell v := fun p z => by
        obtain ⟨hb, e⟩ := of_pinsAt z
        obtain ⟨y1, y2, y3, _, _⟩ := young p.1 (Nat.le_of_lt (wsy p.1 hb))
        obtain ⟨_, o, e2, d⟩ := tT.own p.1 hb
        rw [e] at e2
        cases e2
        exact ⟨e, y1, y2, y3, d⟩
      refine Inv.pinnedG (pn := [(s1.heap.objs.size, go)] ++ pinsAt T.ws s2.heap) I2 fun p hp => ?_
      rcases List.mem_append.mp hp with z | z
      · rcases List.mem_append.mp z with z | z
        · rw [List.mem_singleton.mp z]
          obtain ⟨y1, y2, y3, _, _⟩ := young s1.heap.objs.size (Nat.le_refl _)
          exact ⟨hea, y1, y2, y3, hgd⟩
        · exact own p z
      · rw [List.append_nil] at z
        exact own p z
    have wsn : ∀ {ip cp : List (Addr × Obj)} {u s' : Shared} {σ' : L2.St} {H' : Hp}, cp.map (·.1) = T.ws → Inv (reX (gcxOf P w K mg base N qual scope f cdv Aw outer s H E [(s1.heap.objs.size, go)]) (xeG P w qual scope f cdv Aw outer s.heap.objs.size H E [(s1.heap.objs.size, go)]) (u, cp)) (cp ++ ip) σ' H' s' → ∀ b ∈ T.ws, H' b = none ∧ ∃ o, s'.heap.get? b = some o := fun {ip cp u s' σ' H'} hcp J b hb => by
      rw [← hcp] at hb
      obtain ⟨p, hp, e⟩ := List.mem_map.mp hb
      subst e
      obtain ⟨q1, q2, _⟩ := J.pin p (List.mem_append_right _ (List.mem_append_left _ hp))
      exact ⟨q2, _, q1⟩
    have gen : ∀ {pins : List (Addr × Obj)} {u : Ix} {s' : Shared} {σ' : L2.St} {H' : Hp}, Inv (reX (gcxOf P w K mg base N qual scope f cdv Aw outer s H E [(s1.heap.objs.size, go)]) (xeG P w qual scope f cdv Aw outer s.heap.objs.size H E [(s1.heap.objs.size, go)]) u) pins σ' H' s' → s'.heap.IsGen s1.heap.objs.size s1.gens.size := fun {pins u s' σ' H'} J =>
      hgen _ (J.pin (s1.heap.objs.size, go) (List.mem_append_left _ (List.mem_append_left _ (List.mem_singleton.mpr rfl)))).1
    refine seg_func ?_
    refine seg_imp (R := RY (gcxOf P w K mg base N qual scope f cdv Aw outer s H E [(s1.heap.objs.size, go)]) (xeG P w qual scope f cdv Aw outer s.heap.objs.size H E [(s1.heap.objs.size, go)]) T (fun ys v H' => v = .non ∧ Q ys H') fun e s' => ∃ i : Ix, Vq T i ∧ CX P w outer H i.1 (EPn E ([(s1.heap.objs.size, go)] ++ i.2)) e s' ∧ ∀ p ∈ [(s1.heap.objs.size, go)] ++ i.2, s'.heap.get? p.1 = some p.2)
      (Y := YY (gcxOf P w K mg base N qual scope f cdv Aw outer s H E [(s1.heap.objs.size, go)]) (xeG P w qual scope f cdv Aw outer s.heap.objs.size H E [(s1.heap.objs.size, go)]) T) (fun n s₀ r s1' hR => ?_) (fun n s₀ v s1' kap kap' hkk hY => ?_) sizeLine ?_
    · cases r with
      | error e =>
        obtain ⟨i, ⟨q0, q3, ys, hh, q4, q5⟩, q1, q2⟩ := hR
        have at2 : ∀ b ∈ T.ws, ∃ p ∈ i.2, p.1 = b := fun b hb => by
          rw [← q3] at hb
          obtain ⟨p, hp, e⟩ := List.mem_map.mp hb
          exact ⟨p, hp, e⟩
        refine .inr ⟨e, rfl, i.1, ys, q0, ?_, hgen _ (q2 (s1.heap.objs.size, go) (List.mem_append_left _ (List.mem_singleton.mpr rfl))), tT.st ys _ _ (fun b hb => ?_) q4⟩
        · obtain ⟨a', B, H', cls, d, z1, fl, z2, ub, z3, z4, z5, z6, z7⟩ := q1
          refine ⟨a', B, H', cls, d, z1, fl, z2, ub, z3, z4, z5, z6, fun b hb => ?_⟩
          obtain ⟨p, hp, eb⟩ := at2 b hb
          rw [← eb]
          exact z7 p (List.mem_append_right _ hp)
        · obtain ⟨p, hp, eb⟩ := at2 b hb
          rw [← eb, q5 p hp, q2 p (List.mem_append_right _ hp)]
      | ok fl =>
        cases fl with
        | next => exact False.elim hR
        | brk => exact False.elim hR
        | cont => exact False.elim hR
        | ret v0 =>
          obtain ⟨ys, v, ip, σ', H', hn, ⟨cp, u, hcp, J, hV, hC, hu, hn0⟩, rv, ev, hQ⟩ := hR
          subst ev
          have eu : v0 = Value.none := rv
          subst eu
          exact .inl ⟨.inl rfl, H', ys, u, hV, J.os, J.bare, J.base, J.hok, hC, wsn hcp J, by omega, hQ⟩
    · obtain ⟨ys, xx, ip, cp, u, σ', H', hn, h2, hcp, J, hV, hC, hu, hn0, h3⟩ := hY
      exact ⟨ys, xx, u, H', hn, h2, hV, J.os, J.bare, J.nolimit, gen J, J.base, J.hok, hC, wsn hcp J, hu, fun s' z zc => hkk _ _ (h3 s' z zc)⟩
    · refine ht.run Aw T [] _ sizeLine [] s2 _ [] _ _ id id s2 (start N vs) H _ ⟨hok, fun p hp => (by simp at hp), over_func, rfl, rfl, rfl⟩ (Nat.add_zero _) ⟨fun n ys s₀ s' fl hn hs => ?_, fun n s₀ e s' u hV hx => ?_⟩ hG hq
      · cases fl with
        | next =>
          obtain ⟨σ', H', hI, hQ⟩ := hs
          exact seg_end (.ok (.ret .none)) ⟨ys, .non, [], σ', H', hn, hI, rfl, rfl, hQ⟩
        | brk => obtain ⟨_, _, _, q⟩ := hs; exact False.elim q
        | cont => obtain ⟨_, _, _, q⟩ := hs; exact False.elim q
        | ret v0 =>
          obtain ⟨v, σ', H', hI, rv, ev, hQ⟩ := hs
          exact seg_end (.ok (.ret v0)) ⟨ys, v, [], σ', H', hn, hI, rv, ev, hQ⟩
      · refine seg_wrap ?_
        rw [over_func]
        refine wpAny_mono (show wpAny (model P w) (Aw.deeper (envOfC qual scope s.heap.objs.size f cdv)) (leaving (envOfC qual scope s.heap.objs.size f cdv) e) (fun _ s'' => CX P w outer H u.1 (EPn E ([(s1.heap.objs.size, go)] ++ u.2)) e s'' ∧ ∀ p ∈ [(s1.heap.objs.size, go)] ++ u.2, s''.heap.get? p.1 = some p.2) (fun _ _ => False) s' from hx) (fun _ s'' q => ?_) fun _ s'' q => q.elim
        exact seg_end (.error e) ⟨u, hV, q.1, q.2⟩
  exact main _ _ _ _ rfl rfl rfl fun h => Heap.get?_push_size _ rfl
end TL

set_option maxHeartbeats 1000000
namespace TL
open PySem PySem.Spec PySem.Calls PyProof.Rows L2 GenW

abbrev TGenY := L2.St → Hp → (List V → Hp → Prop) → XK → Prop
structure PGenY (X : Cx) (k : Nat) (e : Expr) (tg : TGenY) : Prop where
  run : ∀ (pins : List (Addr × Obj)) (s : Shared) (σ : L2.St) (H : Hp) (cont : List V → Hp → Prop) (E : XK), Inv X pins σ H s → tg σ H cont E → wpAny (model X.prog X.w) X.A (eval e X.env)
    (fun u s' => ∃ H1 sc, Inv X pins σ H1 sc ∧ GMadeY X.prog X.w X.base k X.stack H1 sc cont E u s') X.xe s
section
variable {X : Cx} {k : Nat} {f : Addr} {fd : FuncData} {ps : List Str} {sp : SpG} {x : Str} {p pos : Pos}
theorem run_gfnY {pins : List (Addr × Obj)} {σ : L2.St} {H : Hp} {s : Shared} {us : List Value} {vs : List V} {cont : List V → Hp → Prop} {E : XK} {E1 : Value → Shared → Prop} (F : GFnY X.prog X.w X.K X.mg X.base k f fd ps sp) (hr : Room k X.A) (hb : Binds X.K fd ps [])
    (I : Inv X pins σ H s) (r : Vals vs us) (h : sp vs H cont E) :
    wpAny (model X.prog X.w) X.A (call (.ref f) us) (fun u s' => ∃ H1 sc, Inv X pins σ H1 sc ∧ GMadeY X.prog X.w X.base k X.stack H1 sc cont E u s') E1 s := by
  have hl2 : us.length = ps.length := by rw [← r.length]; exact F.len _ _ _ _ h
  have b := hb s us I.kIn (by rw [List.append_nil]; exact hl2)
  rw [List.append_nil] at b
  refine wpAny_call (codeAny_mono (F.run X.A X.stack s H ⟨us, []⟩ us vs cont E hr I.env0 b r h) fun r s' hq => ?_)
  cases r with
  | error e => exact False.elim hq
  | ok fl =>
    cases fl with
    | ret u => exact ⟨H, s, I, hq⟩
    | next => exact False.elim hq
    | brk => exact False.elim hq
    | cont => exact False.elim hq
def tCallY (sp : SpG) (t : TA) : TGenY := fun σ H cont E => t σ H fun vs H1 => sp vs H1 cont E
theorem pgenY_call {e : Expr} {es : List Expr} {t : TA} (F : GFnY X.prog X.w X.K X.mg X.base k f fd ps sp) (hr : Room k X.A) (hg : Gl X x) (hm : X.mg x = some (.ref f)) (hk : PySem.W.keepIn X.K (.ref f) = true) (hb : Binds X.K fd ps [])
    (ha : PA X (e :: es) t) (hdb : (x == ("__debug__" : Str)) = false := by decide) (he : starEach (e :: es) X.env = (false, eval e X.env) :: starEach es X.env := by rfl) (hpl : (backTo pos (starEach es X.env)).any (·.1) = false := by rfl) :
    PGenY X k (.Call (.Name x p) (e :: es) [] pos) (tCallY sp t) := by
  refine ⟨fun pins s σ H cont E I h => ?_⟩
  refine wpAny_Call_Name_kw (ld_glob I hg hm ?_ hdb)
  refine PySem.W.callWith_K (h₀ := X.base) I.ok.mod.kin hk (thn (ha.run pos pins s σ H _ I h) fun us s1 ⟨vs, H1, I1, r, q⟩ => ⟨I1.kIn, ?_⟩) he hpl
  exact run_gfnY F hr hb I1 r q
theorem Inv.forget {pins : List (Addr × Obj)} {σ : L2.St} {H : Hp} {s : Shared} (I : Inv X pins σ H s) (i : Nat) : Inv X pins (σ.set i none) H s := by
  refine ⟨I.ok, I.os, I.bare, I.base, ?_, I.cell, I.free, I.freeC, I.pin, I.hok, by rw [List.length_set]; exact I.len⟩
  obtain ⟨m, hn, hl⟩ := I.loc
  refine ⟨m, hn, fun j y v e1 e2 e3 => ?_⟩
  by_cases c : i = j
  · subst c
    rcases Nat.lt_or_ge i σ.length with h | h
    · rw [List.getElem?_set_self h] at e2; cases e2
    · rw [List.getElem?_eq_none (by rw [List.length_set]; exact h)] at e2; cases e2
  · rw [List.getElem?_set_ne c] at e2
    exact hl j y v e1 e2 e3
theorem Inv.rebased {pins : List (Addr × Obj)} {σ : L2.St} {H : Hp} {u : Shared} {h' : Heap} {o : Obj} {m' : Str → Option Value} (I : Inv X pins σ H u) (ho : h'.get? X.env.locals = some o) (hn : h'.Ns X.env.locals m')
    (hl : ∀ (j : Nat) (y : Str) (v : V), X.N[j]? = some y → σ[j]? = some (some v) → Vis X.env.scope y → X.env.kindOf y = some .local → ∃ w, RelV v w ∧ m' y = some w) : Inv X pins σ H (rebase u X.env.locals o) := by
  obtain ⟨m, ⟨o₁, es, ep, hu, hd⟩, hlu⟩ := I.loc
  have hfr : o.isFreed = false := (Heap.get?_some_iff.mp ho).2
  have uL : (u.heap.update X.env.locals fun _ => o).get? X.env.locals = some o := Heap.get?_update_self _ hu hfr
  have uo : ∀ b, b ≠ X.env.locals → (u.heap.update X.env.locals fun _ => o).get? b = u.heap.get? b := fun b hb => Heap.get?_update_other _ _ (Ne.symm hb)
  have old : ∀ b o', X.s_0.heap.get? b = some o' → b ≠ X.env.locals := fun b o' e => Nat.ne_of_lt (Nat.lt_of_lt_of_le (Heap.lt_size e) I.ok.above)
  have ck : ∀ x c, X.env.cells.lookup x = some c → ∀ v, u.heap.IsCell c v → (u.heap.update X.env.locals fun _ => o).IsCell c v := fun x c hc v ⟨oc, h1, h2⟩ => ⟨oc, (uo c (I.cne x c hc)).trans h1, h2⟩
  refine ⟨I.ok, I.os, I.bare, ⟨fun b o' e n hb hx => ?_, fun b o' e n hb hx => ?_, I.base.free, fun b o' e hx => ?_, I.base.tups, I.base.frzs, I.base.tbls⟩, ?_, fun x c hc => ?_, I.free, I.freeC, fun p hp => ?_, fun b w e => ?_, I.len⟩
  · exact (uo b (old b o' e)).trans (I.base.keep b o' e n hb hx)
  · obtain ⟨sl, q⟩ := I.base.slot b o' e n hb hx
    exact ⟨sl, (uo b (old b o' e)).trans q⟩
  · obtain ⟨o2, q⟩ := I.base.there b o' e hx
    exact ⟨o2, (uo b (old b o' e)).trans q⟩
  · obtain ⟨o2, es2, ep2, h2, r2⟩ := hn
    rw [ho] at h2
    cases h2
    refine ⟨m', ⟨o, es2, ep2, uL, r2⟩, fun j y v e1 e2 e3 => ?_⟩
    obtain ⟨w, rv, l⟩ := hlu j y v e1 e2 e3
    rcases l with ⟨l1, _⟩ | ⟨l1, c, l2, l3⟩
    · obtain ⟨w', rv', e'⟩ := hl j y v e1 e2 e3 l1
      exact ⟨w', rv', .inl ⟨l1, e'⟩⟩
    · exact ⟨w, rv, .inr ⟨l1, c, l2, ck y c l2 _ l3⟩⟩
  · obtain ⟨v, q⟩ := I.cell x c hc
    exact ⟨v, ck x c hc v q⟩
  · obtain ⟨q1, q2, q3, q4⟩ := I.pin p hp
    exact ⟨(uo p.1 q3).trans q1, q2, q3, q4⟩
  · have ne : ∀ c w, H c = some w → c ≠ X.env.locals := fun c w q y => by rw [y, I.free] at q; cases q
    refine (I.hok b w e).stay (fun c v hc y => ?_) (fun _ y => y) fun _ _ y => y
    rcases hc with hc | hc
    · subst hc; exact (uo _ (ne _ _ e)).trans y
    · exact (uo _ (ne _ _ hc)).trans y
def tDrain (i : Nat) (E : L2.St → XK) (tg : TGenY) : TS := fun D σ H => tg σ H (fun _ H' => D.nx (σ.set i none) H') (E (σ.set i none))
theorem ps_drain {i : Nat} {nm : Str} {iter : Expr} {p0 p1 pos : Pos} {tg : TGenY} {E : L2.St → XK} (hp : PassesOwn (model X.prog X.w) X.A X.env X.xe) (hc : X.calm = true) (hN : X.N.Nodup) (hi : X.N[i]? = some nm) (hl : X.env.scope.names.lookup nm = some .local) (hG : PGenY X k iter tg) (hr : Room (k + 1) X.A)
    (hns : ∀ σ, NoStop X.K (E σ)) (hx : ∀ σ, PassesAt (L2.CX X.prog X.w) X σ (E σ)) (hs : ∀ x, foldedSetIterable iter X.env x = pure x := by intro _; rfl) : PS X (.For (.Name nm p0) iter [.Continue p1] [] pos) (tDrain i E tg) := by
  refine ⟨fun pins s σ H D I h => ?_⟩
  refine wpAny_For (thn (hG.run pins s σ H _ _ I h) fun v s1 ⟨H1, sc, I1, hM⟩ => ?_) hs
  obtain ⟨a, g, c, rfl, ha1, ha2, hg, hgs, hos, hb, hlim, hkp, wake⟩ := hM
  refine wpAny_pyIter_gen hg ?_
  have I0 : Inv X pins (σ.set i none) H1 sc := Inv.forget I1 i
  obtain ⟨m0, ⟨o0, es0, ep0, ho0, r0⟩, _⟩ := id I0.loc
  have hd : X.A.handled = none := I.ok.hd hc
  have hcls : (X.env.scope.kind == .class || (X.env.scope.kind == .module && X.env.locals != X.env.globals)) = false := by rw [I.ok.kind]; rfl
  have neL : a ≠ X.env.locals := Nat.ne_of_gt (Nat.lt_of_lt_of_le I0.lt ha1)
  generalize eT : (⟨X.env.locals, [], sc.heap.objs.size, fun u => Inv X pins (σ.set i none) H1 u, fun _ _ => True⟩ : Tk) = T at *
  have eL : T.L = X.env.locals := by rw [← eT]
  have eW : T.ws = [] := by rw [← eT]
  have eV : ∀ u, T.Vp u ↔ Inv X pins (σ.set i none) H1 u := fun u => by rw [← eT]
  have eC : ∀ ys h, T.C ys h := fun ys h => by rw [← eT]; trivial
  have hT : TkAt X.base H1 sc s1 (s1.setGen g .running) T := by
    refine ⟨?_, ?_, ?_, by rw [← eT], (eV sc).mpr I0, eC _ _, fun b hb => (by rw [eW] at hb; cases hb), fun _ _ _ _ _ => eC _ _⟩
    · rw [eL]; exact Heap.get?_none_of_le (Nat.le_trans I.ok.bsz I.ok.above)
    · rw [eL]; exact I0.free
    · rw [eL]; exact ⟨o0, ho0⟩
  have seg0 := wake X.A.in1 T (s1.setGen g .running) ⟨hr.hd, by have := hr.dp; show X.A.depth + 3 * k + 5 < _; omega, by have := hr.un; show X.A.units + 1 + 16 * k + 200 < _; omega⟩ I1.ok.frames hT (fun _ _ e => e) hos (allBare_setGen hb rfl)
  have hgsz : g < s1.gens.size := (Array.getElem?_eq_some_iff.mp hgs).1
  refine codeAny_forLoop_any (fun m s' => s'.heap.IsGen a g ∧ s'.heap.NoLimit ∧ ∃ gs, s'.gens[g]? = some gs ∧ gs.Goes (model X.prog X.w) X.A.in1 (REndY X.prog X.w X.stack H1 T a g (fun _ H' => D.nx (σ.set i none) H') (E (σ.set i none))) (YItemY X.prog X.w X.base X.stack H1 T a g) m (.send .none) (s'.setGen g .running)) ?_ sizeLine
    ⟨hg, hlim, _, hgs, rfl, seg0⟩
  rintro m s3 ⟨hg3, hl3, gs, hgs3, hgo⟩
  have hgl : g < s3.gens.size := (Array.getElem?_eq_some_iff.mp hgs3).1
  have kinE : ∀ e (s₁ u : Shared), Inv X pins (σ.set i none) H1 u → L2.CX X.prog X.w X.stack H1 u (E (σ.set i none)) e s₁ → X.K.In s₁.heap := fun e s₁ u Iv cx => by
    obtain ⟨a, B, H', cls, d, _, fl, _, ub, _⟩ := cx
    refine Iv.ok.mod.kin.keeps fun b o eb => fl.1 b o (ub.keep b o (Iv.bs b o eb).1 (Iv.bs b o eb).2 fun hm => ?_)
    rcases List.mem_cons.mp (Iv.stkSub b hm) with z | z
    · have h1 := Heap.lt_size eb
      have h2 := Nat.le_trans Iv.ok.bsz Iv.ok.above
      rw [z] at h1
      exact absurd (Nat.lt_of_lt_of_le h1 h2) (Nat.lt_irrefl _)
    · exact Iv.ok.nofr eb z
  have slp : ∀ {u s₁ s' : Shared} {H' : Hp} {m' : Str → Option Value}, Inv X pins (σ.set i none) H1 u → Inv X pins (σ.set i none) H' s' → (∃ m, s'.heap.Ns X.env.locals m ∧ ∀ (j : Nat) (y : Str) (v : V), X.N[j]? = some y → (σ.set i none)[j]? = some (some v) → Vis X.env.scope y → X.env.kindOf y = some .local → ∃ w, RelV v w ∧ m y = some w) →
      s'.os = s₁.os → AllBare s'.gens → (∀ b o, b ≠ X.env.locals → s₁.heap.get? b = some o → s'.heap.get? b = some o) → Slp T X.base X.stack u s₁ s' := fun {u s₁ s' H' m'} Iv Is hm h1 h2 h3 => by
    obtain ⟨m, hn, hm⟩ := hm
    obtain ⟨o, _, _, ho, _⟩ := id hn
    refine ⟨h1, h2, fun b o' hb _ e => h3 b o' (by rw [← eL]; exact hb) e, fun b hb => (by rw [eW] at hb; cases hb), Is.stack, o, by rw [eL]; exact ho, (eV _).mpr ?_⟩
    rw [eL]
    exact Inv.rebased Iv ho hn hm
  refine wpAny_passesOwn hp (wpAny_gsz (n := g + 1) hgl (next_genG (A := X.A) hd hl3 (Nat.lt_of_le_of_lt (Nat.le_add_right _ (3 * (k + 1) + 5)) (by have := hr.dp; omega)) hg3 hgs3 hgo (fun v s₁ gs' hbare hv => ?_) (fun s₁ hpp h' hk => ?_) fun e s₁ he => ?_))
  · intro hsz
    obtain ⟨ys, x, u, H', hn, rv, hV, os1, hb1, hl1, hg1, un, hok, _, _, _, hk⟩ := hv
    have Iv := (eV u).mp hV
    have Iy : Inv X pins (σ.set i none) H' s₁ := Iv.call' (ch := []) os1 un hok hb1 (fun b z => by simp at z)
    have look : ∀ {s' : Shared} {H' : Hp}, Inv X pins (σ.set i none) H' s' → ∃ m, s'.heap.Ns X.env.locals m ∧ ∀ (j : Nat) (y : Str) (v : V), X.N[j]? = some y → (σ.set i none)[j]? = some (some v) → Vis X.env.scope y → X.env.kindOf y = some .local → ∃ w, RelV v w ∧ m y = some w := fun {s' H'} J => by
      obtain ⟨m, hn, hl⟩ := J.loc
      refine ⟨m, hn, fun j y v e1 e2 e3 e4 => ?_⟩
      obtain ⟨w, rv, l⟩ := hl j y v e1 e2 e3
      rcases l with ⟨_, l⟩ | ⟨l, _⟩
      · exact ⟨w, rv, l⟩
      · rw [e4] at l
        rcases l with l | l <;> cases l
    have hsz1 : g < s₁.gens.size := by
      have q : (s₁.setGen g gs').gens.size = s₁.gens.size := setGen_size _ _ _
      have hsz' : g + 1 ≤ (s₁.setGen g gs').gens.size := hsz
      omega
    cases m with
    | zero => exact False.elim (hk s₁ (slp (m' := fun _ => none) Iv Iy (look Iy) rfl hb1 fun _ _ _ e => e) (eC _ _))
    | succ m =>
      obtain ⟨og, nm1, qn1, hog, hogc, hogd, hogs⟩ := id hg1
      obtain ⟨mf, hmf, hlf⟩ := look Iy
      refine go_of (s := s₁.setGen g gs') hog hogc hogd (by decide) ?_
      refine wpAny_assign_Name (wpAny_storeName_local (s := s₁.setGen g gs') hl hmf (fun h' hn' hsb => ?_) hcls)
      refine wpAny_execs_cons (wpAny_Continue ?_)
      have keep3 : ∀ b o, b ≠ X.env.locals → s₁.heap.get? b = some o → h'.get? b = some o := fun b o hb e => (hsb.2 b hb).trans e
      have hm' : ∃ m, h'.Ns X.env.locals m ∧ ∀ (j : Nat) (y : Str) (v : V), X.N[j]? = some y → (σ.set i none)[j]? = some (some v) → Vis X.env.scope y → X.env.kindOf y = some .local → ∃ w, RelV v w ∧ m y = some w := by
        refine ⟨_, hn', fun j y v e1 e2 e3 e4 => ?_⟩
        obtain ⟨w, rw', ew⟩ := hlf j y v e1 e2 e3 e4
        refine ⟨w, rw', ?_⟩
        have ny : y ≠ nm := fun e => by
          have : i = j := nodup_ix hN hi (e ▸ e1)
          subst this
          rcases Nat.lt_or_ge i σ.length with h | h
          · rw [List.getElem?_set_self h] at e2; cases e2
          · rw [List.getElem?_eq_none (by rw [List.length_set]; exact h)] at e2; cases e2
        simp [ny, ew]
      have Iz : Inv X pins (σ.set i none) H' ({ s₁ with gens := (s₁.setGen g gs').gens, heap := h', toks := s₁.toks + 1 } : Shared) := by
        obtain ⟨m2, hn2, hl2⟩ := hm'
        obtain ⟨oL, esL, epL, hoL, rL⟩ := id hn2
        obtain ⟨oM, _, _, hoM, _⟩ := id hmf
        have r := Inv.rebased Iy hoL hn2 hl2
        refine r.call' (ch := []) rfl (Un.kept fun b o e => ?_) ((r.hok).kept fun b o e => ?_) (allBare_setGen hb1 hbare) (fun b z => by simp at z)
        all_goals
          have e' : (s₁.heap.update X.env.locals fun _ => oL).get? b = some o := e
          by_cases z : b = X.env.locals
          · subst z
            rw [Heap.get?_update_self _ hoM (Heap.get?_some_iff.mp hoL).2] at e'
            cases e'
            exact hoL
          · rw [Heap.get?_update_other _ _ (Ne.symm z)] at e'
            exact keep3 b o z e'
      refine ⟨m, Nat.lt_succ_self m, ?_, ?_, gs', ?_, ?_⟩
      · exact ⟨og, nm1, qn1, keep3 a og neL hog, hogc, hogd, hogs⟩
      · exact Iz.nolimit
      · exact setGen_at hsz1
      · refine hk _ (slp (m' := fun _ => none) Iv (Iz.call' (ch := []) rfl Un.refl Iz.hok (allBare_setGen Iz.bare rfl) (fun b z => by simp at z)) hm' rfl (allBare_setGen (allBare_setGen hb1 hbare) rfl) keep3) (eC _ _)
  · intro hsz
    obtain ⟨H', ys, u, hV, os1, hb1, un, hok, _, _, _, hQ⟩ := hpp
    have Iv := (eV u).mp hV
    exact wpAny_execs_nil ⟨_, H', Iv.call' (ch := []) (s' := { s₁.setGen g .finished with heap := h' }) os1 (un.trans (Un.kept hk)) (hok.kept hk) (allBare_setGen hb1 rfl) (fun b z => by simp at z), hQ⟩
  · obtain ⟨u, _, hV, cx, hg1, _⟩ := he
    have cx : L2.CX X.prog X.w X.stack H1 u (E (σ.set i none)) e s₁ := by
      obtain ⟨a, B, H', cls, d, z1, fl, z2, ub, z3, z4, z5, z6, _⟩ := cx
      exact ⟨a, B, H', cls, d, z1, fl, z2, ub, z3, z4, z5, z6⟩
    have Iv := (eV u).mp hV
    refine ⟨hg1, notStop_of (hns _) (kinE e s₁ u Iv cx) cx, fun _ => hx _ pins H1 u e _ Iv ?_⟩
    obtain ⟨a, B, H', cls, d, z1, fl, z2, ub, z3, z4, z5, z6⟩ := cx
    exact ⟨a, B, H', cls, d, z1, fl, z2, ub, z3, z4, allBare_setGen z5 rfl, z6⟩
end
end TL

set_option maxHeartbeats 1000000
namespace TL
open PySem PySem.Spec PySem.Calls PyProof.Rows L2 GenW

def JZ (X : Cx) (xe : Ix → Value → Shared → Prop) (W : WX) (st : List Stmt) (m : GnM) : Prop := GSys X xe st (liftY X.K W m)
def JZ1 (X : Cx) (xe : Ix → Value → Shared → Prop) (W : WX) (st : Stmt) (m : GnM) : Prop := GSy X xe st (liftY X.K W m)
def ForG (ts : List T) (stay : Hq → Prop) (g : GM) (b : GnM) (D : GnE) (ys : List T) (s : Sl) (h1 : Hq) : Prop := ∃ I : Nat → List T → SK, I 0 ys s h1 ∧ ∀ i ys s h, i ≤ ts.length → I i ys s h → stay h ∧ match ts[i]? with
  | none => D.nx ys s h
  | some t => g t s h (fun s2 h2 => b { D with nx := I (i + 1), ct := I (i + 1), bk := D.nx } ys s2 h2) D.ex
def yFor (src : IM) (g : GM) (b : GnM) : GnM := fun D ys s h => src s h (fun ts stay h1 => ForG ts stay g b D ys s h1) D.ex
section
variable {X : Cx} {xe : Ix → Value → Shared → Prop} {W : WX} {st : Stmt} {rest : List Stmt}
theorem jz_plain {a : SM} (ha : ∀ u, JS (reX X xe u) W st a) : JZ1 X xe W st (yPlain a) := GSy.wk (gy_ps (t := liftS X.K W a) ha) fun D ys σ H ⟨S, h, s, D', ts, m, rs, rl, lk, q⟩ =>
  ⟨S, h, s, _, m, rs, { nx := fun S1 H1 h1 σ1 s1 f1 m1 r1 q1 => lk.nx S1 H1 h1 σ1 s1 _ _ f1 m1 r1 (rl.fut f1) q1, rt := fun S1 H1 h1 v u f1 m1 r1 q1 => lk.rt S1 H1 h1 v u _ _ f1 m1 r1 (rl.fut f1) q1, bk := fun S1 H1 h1 σ1 s1 f1 m1 r1 q1 => lk.bk S1 H1 h1 σ1 s1 _ _ f1 m1 r1 (rl.fut f1) q1, ct := fun S1 H1 h1 σ1 s1 f1 m1 r1 q1 => lk.ct S1 H1 h1 σ1 s1 _ _ f1 m1 r1 (rl.fut f1) q1, ex := lk.ex }, q⟩
theorem jz_yield {e : Expr} {m : EM} {yp pos : Pos} (he : ∀ u, JE (reX X xe u) W e m) (hco : X.env.scope.isCoroutine = false := by rfl) (hi : interactive X.env = false := by rfl) : JZ1 X xe W (.Expr (.Yield (some e) yp) pos) (yYield m) := GSy.wk (gy_yield (te := liftE X.K W m) he hco hi) fun D ys σ H ⟨S, h, s, D', ts, mm, rs, rl, lk, hl, q⟩ =>
  ⟨by rw [rl.length]; exact Nat.lt_of_lt_of_le hl (by decide), S, h, s, _, D'.ex, mm, rs, lk.ex, q, fun S1 H1 h1 v u f1 m1 r1 q1 => lk.nx S1 H1 h1 σ s _ _ f1 m1 (rs.fut f1) (RepL.app (rl.fut f1) (.cons r1 .nil)) q1⟩
theorem jzs_nil : JZ X xe W [] yNil := GSys.wk gys_nil fun D ys σ H ⟨S, h, s, D', ts, mm, rs, rl, lk, q⟩ => lk.nx S H h σ s _ _ Fut.refl mm rs rl q
theorem jzs_cons {a b : GnM} (ha : JZ1 X xe W st a) (hb : JZ X xe W rest b) : JZ X xe W (st :: rest) (ySeq a b) := GSys.wk (gys_cons ha hb) fun D ys σ H ⟨S, h, s, D', ts, mm, rs, rl, lk, q⟩ =>
  ⟨S, h, s, { D' with nx := fun ys' s' h' => b D' ys' s' h' }, ts, mm, rs, rl, { nx := fun S1 H1 h1 σ1 s1 vs us f1 m1 r1 r2 q1 => ⟨S1, h1, s1, D', us, m1, r1, r2, lk.fut f1, q1⟩, rt := lk.rt, bk := lk.bk, ct := lk.ct, ex := lk.ex }, q⟩
theorem jz_for {tg iter : Expr} {body : List Stmt} {src : IM} {g : GM} {b : GnM} {pos : Pos} (hp : ∀ u, PassesOwn (model X.prog X.w) X.A X.env (xe u)) (hc : X.calm = true) (hi : ∀ u, JI (reX X xe u) W tg iter src) (hg : ∀ u, JG (reX X xe u) W tg g) (hb : JZ X xe W body b) (hs : ∀ x, foldedSetIterable iter X.env x = pure x := by intro _; rfl) :
    JZ1 X xe W (.For tg iter body [] pos) (yFor src g b) := GSy.wk (gy_for (wi := liftI X.K W src) (g := liftG X.K W g) hp hc hi hg hb hs) fun D' ys' σ H ⟨S, h, s, D, ys, m, rs, rl, lk, hm⟩ => by
  refine ⟨S, h, s, _, D.ex, m, rs, lk.ex, hm, fun S1 H1 h1 J ts stay f1 m1 it q => ?_⟩
  obtain ⟨I, i0, step⟩ := q
  refine ⟨fun i n vs σ2 H2 => n = ts.length - i ∧ i ≤ ts.length ∧ ∃ S2 h2 s2 us, Fut S1 H1 S2 H2 ∧ Sim X.K S2 H2 h2 ∧ RepS X.K S2 H2 σ2 s2 ∧ RepL X.K S2 H2 vs us ∧ I i us s2 h2, ⟨ts.length, by simp, Nat.zero_le _, S1, h1, s, ys, Fut.refl, m1, rs.fut f1, rl.fut f1, i0⟩, ?_⟩
  rintro i n vs σ2 H2 ⟨en, hi, S2, h2, s2, us, f2, m2, r2, rl2, i2⟩
  obtain ⟨st, q2⟩ := step i us s2 h2 hi i2
  obtain ⟨go, stop⟩ := it S2 H2 h2 f2.fu m2 st
  cases e : ts[i]? with
  | none =>
    rw [e] at q2
    have hl : i = ts.length := Nat.le_antisymm hi (List.getElem?_eq_none_iff.mp e)
    exact .inl ⟨by rw [hl]; exact stop, lk.nx S2 H2 h2 σ2 s2 vs us (f1.trans f2) m2 r2 rl2 q2⟩
  | some t =>
    rw [e] at q2
    have hl : i < ts.length := (List.getElem?_eq_some_iff.mp e).1
    obtain ⟨g1, g2⟩ := go i t e
    refine .inr ⟨g1, fun vs' σ' H' => ∃ S3 h3 s3 us', Fut S1 H1 S3 H' ∧ Sim X.K S3 H' h3 ∧ RepS X.K S3 H' σ' s3 ∧ RepL X.K S3 H' vs' us' ∧ I (i + 1) us' s3 h3, fun vs' σ' H' q => ⟨ts.length - (i + 1), by omega, rfl, hl, q⟩, fun x H3 y => ?_⟩
    obtain ⟨S3, f3, m3, r3⟩ := g2 x H3 y
    refine ⟨S3, h2, s2, t, _, D.ex, m3, r2.fut f3, r3, lk.ex.fut ((f1.trans f2).trans f3), q2, fun S4 H4 h4 σ4 s4 f4 m4 r4 q4 => ?_⟩
    have fa := ((f1.trans f2).trans f3).trans f4
    have lka := lk.fut fa
    have nxt : ∀ S5 H5 h5 σ s vs ts, Fut S4 H4 S5 H5 → Sim X.K S5 H5 h5 → RepS X.K S5 H5 σ s → RepL X.K S5 H5 vs ts → I (i + 1) ts s h5 → ∃ S3 h3 s3 us', Fut S1 H1 S3 H5 ∧ Sim X.K S3 H5 h3 ∧ RepS X.K S3 H5 σ s3 ∧ RepL X.K S3 H5 vs us' ∧ I (i + 1) us' s3 h3 := fun S5 H5 h5 σ5 s5 vs5 ts5 f5 m5 r5 rl5 q5 => ⟨S5, h5, s5, ts5, ((f2.trans f3).trans f4).trans f5, m5, r5, rl5, q5⟩
    exact ⟨S4, h4, s4, { D with nx := I (i + 1), ct := I (i + 1), bk := D.nx }, us, m4, r4, rl2.fut (f3.trans f4), { nx := nxt, rt := lka.rt, bk := lka.nx, ct := nxt, ex := lka.ex }, q4⟩
end
theorem jss_never {X : Cx} {W : WX} {st : List Stmt} : JSs X W st sNever := ⟨fun pins s σ H D I ⟨_, _, _, _, _, _, _, z⟩ => z.elim⟩
theorem gfnY_ok {P : Program} {w : World} {K : PySem.W.Frag} {mg : Str → Option Value} {base : Heap} {x qual : Str} {st : Stmt} {f : Addr} {fd : FuncData} {N ps : List Str} {k : Nat} {c : ConG} {B : GnM} (F : Fun K x qual st f fd) (sc : GScope N ps (defScope st)) (hl : ps.length ≤ N.length)
    (J : ∀ (cdv : Value) (A : Around) (outer : List Env) (s : Shared) (H : Hp) (E : XK) (pn : List (Addr × Obj)), Room k (A.deeper (PyProof.Rows.envOfC qual (defScope st) s.heap.objs.size f cdv)) →
      JZ (gcxOf P w K mg base N qual (defScope st) f cdv A outer s H E pn) (xeG P w qual (defScope st) f cdv A outer s.heap.objs.size H E pn) (fun cls d _ H => E cls d H) (defBody st) B)
    (pl : ∀ ts h Q E, ts.length = ps.length → c ts h Q E → B (endsG Q E) [] (startT N.length ts) h) : GFnY P w K mg base (k + 1) f fd ps (liftSpG K ps.length c) := by
  obtain ⟨oc, od, kV, doc, pm, an, cdv, ct, osl, rfl, lk, hcd⟩ := F.ex
  refine gfnY_of lk hcd sc (fun vs H Q E ⟨S, h, ts, Q', E', m, r, l, _⟩ => r.length.trans l) fun A outer s H vs Q E pn hr ⟨S, h, ts, Q', E', m, r, l, q, pk, px⟩ => ⟨_, J cdv A outer s H E pn hr, ?_⟩
  refine ⟨S, h, startT N.length ts, endsG Q' E', [], m, ?_, .nil, ?_, pl ts h Q' E' l q⟩
  · exact RepS.start (N := N) r (by rw [r.length, l]; exact hl)
  · exact { nx := fun S1 H1 h1 σ1 s1 vs1 ts1 f1 m1 r1 r2 ⟨h2, z, q1⟩ => pk S1 H1 h2 _ _ f1 (m1.sub z) r2 q1, rt := fun S1 H1 h1 v u vs1 ts1 f1 m1 r1 r2 ⟨e, h2, z, q1⟩ => by
              subst e
              cases r1
              exact ⟨rfl, pk S1 H1 h2 _ _ f1 (m1.sub z) r2 q1⟩, bk := fun _ _ _ _ _ _ _ _ _ _ _ z => z.elim, ct := fun _ _ _ _ _ _ _ _ _ _ _ z => z.elim,
            ex := fun S1 H1 h1 σ1 s1 x cls d f1 m1 r1 rx ⟨h2, z, q1⟩ => px S1 H1 h2 x cls d f1 (m1.sub z) rx q1 }
theorem RepS.drop {K : PySem.W.Frag} {S : Fz} {H : Hp} {σ : L2.St} {s : Sl} (r : RepS K S H σ s) (i : Nat) : RepS K S H (σ.set i none) (s.set i none) := ⟨by simp [r.len], fun j u e => by
  by_cases c : i = j
  · subst c
    have hl : i < s.length := by
      have := (List.getElem?_eq_some_iff.mp e).1
      simpa using this
    rw [List.getElem?_set_self hl] at e
    cases e
  · rw [List.getElem?_set_ne c] at e
    obtain ⟨w, h1, h2⟩ := r.at_ j u e
    exact ⟨w, by rw [List.getElem?_set_ne c]; exact h1, h2⟩⟩
def sDrain (cs : List Addr) (n i : Nat) (c : ConG) (a : AM) : SM := fun D s h => a s h (fun ts h1 => ts.length = n ∧ c ts h1 (fun _ h2 => D.nx (s.set i none) h2) fun x h2 => (∃ b ∈ cs, x.cls = .ref b) ∧ D.ex x (s.set i none) h2) D.ex
theorem js_drain {X : Cx} {W : WX} {cs : List Addr} {k n i : Nat} {f : Addr} {fd : FuncData} {ps : List Str} {c : ConG} {x nm : Str} {p p0 p1 pos pos' : Pos} {e : Expr} {es : List Expr} {a : AM} (hp : PassesOwn (model X.prog X.w) X.A X.env X.xe) (hcm : X.calm = true) (hN : X.N.Nodup) (hi : X.N[i]? = some nm) (hl : X.env.scope.names.lookup nm = some .local)
    (F : GFnY X.prog X.w X.K X.mg X.base k f fd ps (liftSpG X.K n c)) (hr : Room (k + 1) X.A) (hg : Gl X x) (hm : X.mg x = some (.ref f)) (hk : PySem.W.keepIn X.K (.ref f) = true) (hb : Binds X.K fd ps []) (tk : Takes X W) (hcs : ∀ b ∈ cs, PySem.W.subIn X.K (.ref b) (.type "StopIteration") = some false) (ha : JA X W (e :: es) a)
    (hd : (x == ("__debug__" : Str)) = false := by decide) (he : starEach (e :: es) X.env = (false, eval e X.env) :: starEach es X.env := by rfl) (hpl : (backTo pos' (starEach es X.env)).any (·.1) = false := by rfl)
    (hs : ∀ x', foldedSetIterable (.Call (.Name x p) (e :: es) [] pos') X.env x' = pure x' := by intro _; rfl) :
    JS X W (.For (.Name nm p0) (.Call (.Name x p) (e :: es) [] pos') [.Continue p1] [] pos) (sDrain cs n i c a) :=
  PS.wk (ps_drain (E := fun σ cls d H => (∃ b ∈ cs, cls = .ref b) ∧ W cls d σ H) hp hcm hN hi hl (pgenY_call F (hr.mono (by omega)) hg hm hk hb ha hd he hpl) hr (fun σ cls d H ⟨⟨b, hb, e⟩, _⟩ => by rw [e]; exact hcs b hb)
    (fun σ pins H s e s' I cx => passAt tk σ pins H s e s' I (by
      obtain ⟨a, B, H', cls, d, z1, fl, z2, ub, z3, z4, z5, z6⟩ := cx
      exact ⟨a, B, H', cls, d, z1, fl, z2, ub, z3, z4, z5, z6.2⟩)) hs) fun D' σ H ⟨S, h, s, D, m, rs, lk, q⟩ =>
  ⟨S, h, s, _, D.ex, m, rs, lk.ex, q, fun S1 H1 h1 vs ts f1 m1 r1 ⟨l1, q1⟩ => ⟨S1, h1, ts, _, _, m1, r1, l1, q1, fun S2 H2 h2 us ys f2 m2 r2 q2 => lk.nx S2 H2 h2 _ _ (f1.trans f2) m2 ((rs.fut (f1.trans f2)).drop i) q2,
    fun S2 H2 h2 x cls d f2 m2 r2 ⟨⟨b, hb, e⟩, q2⟩ => ⟨⟨b, hb, r2.1.trans e⟩, lk.ex S2 H2 h2 _ _ x cls d (f1.trans f2) m2 ((rs.fut (f1.trans f2)).drop i) r2 q2⟩⟩⟩
end TL

set_option maxHeartbeats 4000000
namespace TL
open PySem PySem.Spec PyProof.Rows L2
section
variable {X : Cx} {k n : Nat} {f C : Addr} {fd : FuncData} {ps : List Str} {sp : Sp} {a : Addr} {oe : Obj} {pn : List (Addr × Obj)}
theorem run_E {pins : List (Addr × Obj)} {s : Shared} {σ : L2.St} {H : Hp} {us : List Value} {vs : List V} {Q : VK} {A : Around} (hA : A = X.A.mark (some (.ref a)) ∨ A = (X.A.mark (some (.ref a))).in1) (F : FnE X.prog X.w X.K X.mg X.base k f fd ps (a, oe) sp) (hr : L2H.RoomH (k + 1) X.A) (hb : Binds X.K fd ps []) (I : Inv (X.suite a ((a, oe) :: pn)) pins σ H s) (r : Vals vs us) (h : sp vs H Q fun _ _ _ => False) :
    wpAny (model X.prog X.w) A (call (.ref f) us) (EP (X.suite a ((a, oe) :: pn)) pins σ Q) (fun _ _ => False) s := by
  have len : us.length = ps.length := r.length.symm.trans (F.ln h)
  have b := hb s us I.kIn (by rw [List.append_nil]; exact len)
  rw [List.append_nil] at b
  obtain ⟨p1, p2, p3, p4, p5⟩ := I.pin (a, oe) (List.mem_append_left _ List.mem_cons_self)
  have pin : L2H.PinOk (X.suite a ((a, oe) :: pn)).stack H s (a, oe) := ⟨p1, p2, fun c => (List.mem_cons.mp (I.stkSub a c)).elim p3 p4, p5⟩
  have go : ∀ {B : Around}, L2H.RoomH k B → B.handled = some (.ref a) → Env0 X.prog X.w X.K X.mg X.base B (X.suite a ((a, oe) :: pn)).stack s H → wpAny (model X.prog X.w) B (call (.ref f) us) (EP (X.suite a ((a, oe) :: pn)) pins σ Q) (fun _ _ => False) s := fun {B} hr hh e0 => by
    refine wpAny_call (codeAny_mono (F.go (A := B) hr hh pin e0 b r h) fun res s' hq => ?_)
    cases res with
    | error z =>
      obtain ⟨_, _, _, _, _, _, _, _, _, _, _, _, bad⟩ := hq
      exact bad
    | ok fl =>
      cases fl with
      | ret u => exact I.after hq
      | next => exact False.elim hq
      | brk => exact False.elim hq
      | cont => exact False.elim hq
  rcases hA with e | e
  · subst e
    exact go ⟨by have := hr.dp; show X.A.depth + 3 * k + 5 < _; omega, by have := hr.un; show X.A.units + 16 * k + 200 < _; omega⟩ rfl I.env0
  · subst e
    exact go ⟨by have := hr.dp; show X.A.depth + 3 * k + 5 < _; omega, by have := hr.un; show X.A.units + 1 + 16 * k + 200 < _; omega⟩ rfl I.env0.in1
theorem pe_ownIxE {o i : Expr} {ta ti : TE} {pos : Pos} (hm : Meth X.K C "__getitem__" f) (hfn : PySem.W.fnIn X.K f = true) (F : FnE X.prog X.w X.K X.mg X.base k f fd ps (a, oe) sp) (hr : L2H.RoomH (k + 1) X.A) (hb : Binds X.K fd ps [])
    (ho : PE (X.suite a ((a, oe) :: pn)) o ta) (hi : PE (X.suite a ((a, oe) :: pn)) i ti)
    (hsl : ∀ a u, subscripted i true (.ref a) u = runValue (.builtin "lifetime.subscript" ⟨[.ref a, u], []⟩)) :
    PE (X.suite a ((a, oe) :: pn)) (.Subscript o i pos) (fun σ H Q => ta σ H fun x H1 => ti σ H1 fun y H2 => ∃ a dx fs, x = .ref a ∧ H2 a = some (.ins C dx fs) ∧ sp [.ref a, y] H2 Q fun _ _ _ => False) := by
  refine ⟨fun pins s σ H Q I h => ?_⟩
  refine Subscript_ (thn (ho.run pins s σ H _ I h) fun u s1 ⟨x, H1, I1, rx, q1⟩ => thn (hi.run pins s1 σ H1 _ I1 q1) fun iv s2 ⟨y, H2, I2, ry, b, dx, fs, ex, ea, q2⟩ => ?_)
  subst ex
  obtain rfl : u = Value.ref b := rx
  obtain ⟨od, J⟩ := instAt I2 ea
  obtain ⟨mm, fr⟩ := I2.fr
  refine PySem.W.sub_K fr I2.ok.mod.kin J hm.at_ hfn hm.fn ?_ (hsl b iv)
  have r2 : Vals [.ref b, y] [.ref b, iv] := .cons rfl (.cons ry .nil)
  exact wpAny_mono (run_E (X := X) (.inr rfl) F hr hb I2 r2 q2) (fun _ _ z => z) fun _ _ z => z.elim
theorem j_ownIxE {c : Con} {o i : Expr} {mo mi : EM} {pos : Pos} (hm : Meth X.K C "__getitem__" f) (hfn : PySem.W.fnIn X.K f = true) (F : FnE X.prog X.w X.K X.mg X.base k f fd ps (a, oe) (spE X.K 2 c)) (hr : L2H.RoomH (k + 1) X.A) (hb : Binds X.K fd ps [])
    (ho : JE (X.suite a ((a, oe) :: pn)) W0 o mo) (hi : JE (X.suite a ((a, oe) :: pn)) W0 i mi)
    (hsl : ∀ a u, subscripted i true (.ref a) u = runValue (.builtin "lifetime.subscript" ⟨[.ref a, u], []⟩) := by intros; rfl) :
    JE (X.suite a ((a, oe) :: pn)) W0 (.Subscript o i pos) (eOwnIx C c mo mi) := PE.wk (pe_ownIxE hm hfn F hr hb ho hi hsl) fun σ H Q' ⟨S, h, s, Q, E, m, rs, lk, hm, pk⟩ =>
  ⟨S, h, s, _, E, m, rs, lk, hm, fun S1 H1 h1 v x f1 m1 r1 q1 => ⟨S1, h1, s, _, E, m1, rs.fut f1, lk.fut f1, q1, fun S2 H2 h2 w y f2 m2 r2 q2 => by
    split at q2
    · rename_i C2 g2 e2
      obtain ⟨rfl, q2⟩ := q2
      obtain ⟨a, dx, fs, rfl, ea, _⟩ := insOf_ok m2 (r1.fut f2) e2
      exact ⟨a, dx, fs, rfl, ea, S2, h2, [x, y], Q, _, m2, .cons (r1.fut f2) (.cons r2 .nil), rfl, q2, pk.fut (f1.trans f2), fun S3 H3 h3 z cls d f3 m3 r3 q3 => lk S3 H3 h3 σ s z cls d ((f1.trans f2).trans f3) m3 (rs.fut ((f1.trans f2).trans f3)) r3 q3⟩
    · exact q2.elim⟩⟩
theorem js_raiseE {x : Str} {C : Addr} {fl : Str} {e : Expr} {es : List Expr} {m : AM} {p pos pos' : Pos} (hk : PySem.W.keepIn X.K (.ref C) = true) (hg : Gl (X.suite a ((a, oe) :: pn)) x) (hm : X.mg x = some (.ref C)) (ha : JA (X.suite a ((a, oe) :: pn)) W0 (e :: es) m)
    (hdb : (x == ("__debug__" : Str)) = false := by decide) (he : starEach (e :: es) X.env = (false, eval e X.env) :: starEach es X.env := by rfl) (hpl : (backTo pos (starEach es X.env)).any (·.1) = false := by rfl) :
    JS (X.suite a ((a, oe) :: pn)) W0 (.Raise (some (.Call (.Name x p) (e :: es) [] pos)) none pos') (sRaise C fl m) := ⟨fun pins s σ H D' I ⟨S, h, s', D, mm, rs, lk, q⟩ => by
  have q0 : liftA X.K W0 m σ H (fun _ H1 => ∀ dx, H1 dx = none → False) := ⟨S, h, s', _, D.ex, mm, rs, lk.ex, q, fun S1 H1 h1 vs ts f1 m1 r1 q1 => by
    split at q1
    · cases r1 with
      | @cons v _ t _ r rn =>
        cases rn
        intro dx ndx
        obtain ⟨m2, f2⟩ := m1.frozen (u := .xd [(fl, v)]) ndx
        exact lk.ex _ _ h1 σ s' ⟨.ref C, [(fl, _)]⟩ _ _ (f1.trans f2) m2 (rs.fut (f1.trans f2)) ⟨rfl, .inr ⟨dx, [(fl, v)], rfl, .inr rfl, upd_same, .cons (r.fut f2) .nil⟩⟩ q1
    · exact q1.elim⟩
  have w : wpAny (model X.prog X.w) (X.suite a ((a, oe) :: pn)).A (eval (.Call (.Name x p) (e :: es) [] pos) X.env) (fun _ _ => False) (fun _ _ => False) s := by
    refine wpAny_Call_Name_kw (ld_glob I hg hm ?_ hdb)
    refine PySem.W.callWith_K (h₀ := X.base) I.ok.mod.kin hk (thn (ha.run pos pins s σ H _ I q0) fun us s1 ⟨vs, H1, J, r, z⟩ => (z _ (J.hok.fresh (Nat.le_refl _))).elim) he hpl
  show wpAny _ _ (do standAt pos'; raiseStmt X.env (some (do let v ← eval (.Call (.Name x p) (e :: es) [] pos) X.env; standAt pos'; pure v)) none) _ _ _
  refine wpAny_bind (wpAny_standAt ?_)
  unfold raiseStmt
  dsimp only
  exact wpAny_bind (wpAny_bind (wpAny_mono w (fun _ _ z => z.elim) fun _ _ z => z.elim))⟩
end
end TL

set_option maxHeartbeats 4000000
namespace TL
open PySem PySem.Spec PyProof.Rows L2
abbrev Quiet (A : Around) : Prop := A.guards = some []
structure FnOkG (P : Program) (w : World) (K : PySem.W.Frag) (mg : Str → Option Value) (base : Heap) (k : Nat) (f : Addr) (fd : FuncData) (ps : List Str) (sp : Sp) : Prop where
  ln : ∀ {vs : List V} {H : Hp} {Q : VK} {E : XK}, sp vs H Q E → vs.length = ps.length
  go : ∀ {A : Around} {outer : List Env} {s : Shared} {H : Hp} {args : Args} {us : List Value} {vs : List V} {Q : VK} {E : XK},
    Room k A → Quiet A → Env0 P w K mg base A outer s H → BindsTo s fd args (ps.zip us) → Vals vs us → sp vs H Q E → codeAny (model P w) A (.call (.ref f) args) (CR (L2.CX P w) outer P w H s Q E) s
section
variable {P : Program} {w : World} {K : PySem.W.Frag} {mg : Str → Option Value} {base : Heap} {k : Nat} {x qual : Str} {st : Stmt} {f : Addr} {fd : FuncData} {N ps : List Str} {sp : Sp}
theorem fnG_of (F : Fun K x qual st f fd) (S : FnScope N ps (defScope st)) (ln : ∀ {vs : List V} {H : Hp} {Q : VK} {E : XK}, sp vs H Q E → vs.length = ps.length)
    (body : ∀ (cdv : Value) (A : Around) (outer : List Env) (s : Shared) (H : Hp) (vs : List V) (Q : VK) (E : XK), Room k (A.deeper (envOfC qual (defScope st) s.heap.objs.size f cdv)) → Quiet A → sp vs H Q E →
      ∃ t, PSs (cxOf (L2.CX P w) P w K mg base N qual (defScope st) f cdv A outer s H E) (defBody st) t ∧ t { nx := fun _ H' => Q .non H', rt := Q } (L2.start N vs) H) : FnOkG P w K mg base (k + 1) f fd ps sp := by
  obtain ⟨oc, od, kV, doc, pm, an, cdv, ct, osl, efd, look, code⟩ := F.ex
  cases efd
  refine ⟨ln, fun {A outer s H args us vs Q E} room quiet e0 bind vals hsp => ?_⟩
  have inK : K.In s.heap := e0.mod.kin.keeps fun b o e => (e0.bs b o e).1
  have kinds : ∀ y ∈ ps.zip us, (defScope st).names.lookup y.1 = some .local ∨ ((defScope st).names.lookup y.1 = some .cell ∧ ((cellsFrom (s.heap.objs.size + 1) (defScope st).names []).lookup y.1).isSome = true) := fun y hy => by
    have hm : y.1 ∈ ps := (List.of_mem_zip (show (y.1, y.2) ∈ ps.zip us from hy)).1
    exact (S.par y.1 hm).imp id fun c => ⟨c, PySem.W.cellsFrom_some _ _ _ (.inl c)⟩
  refine codeAny_call_function room.depth (inK _ _ look) rfl S.co S.gen rfl (PySem.W.codeRec_of inK code) (bind _ _ _ _ (wpAny_newFunctionEnv_cells S.kind kinds fun env he s1 x => ?_))
  cases he
  refine ⟨(e0.mod.nolimit.keeps fun b o e => (e0.bs b o e).1).keeps x.toInCall.keep, codeAny_func ?_⟩
  obtain ⟨t, ht, hq⟩ := body cdv A outer s H vs Q E (room.deeper _) quiet hsp
  have I := inv_start (CX := L2.CX P w) (E := E) S room.hd e0 (ln hsp) vals x
  refine wpAny_mono (ht.run [] s1 (L2.start N vs) H _ I hq) (fun fl s' hs => ?_) fun e s' z => z
  cases fl with
  | ret u =>
    obtain ⟨v, σ', H', J, rv, q⟩ := hs
    exact ⟨v, H', J.os, J.bare, J.base, J.hok, rv, q⟩
  | next =>
    obtain ⟨σ', H', J, q⟩ := hs
    exact ⟨.non, H', J.os, J.bare, J.base, J.hok, rfl, q⟩
  | brk =>
    obtain ⟨_, _, _, q⟩ := hs
    exact q.elim
  | cont =>
    obtain ⟨_, _, _, q⟩ := hs
    exact q.elim
theorem fn_okG {c : Con} {B : SM} (F : Fun K x qual st f fd) (sc : FnScope N ps (defScope st)) (hl : ps.length ≤ N.length)
    (J : ∀ (cdv : Value) (A : Around) (outer : List Env) (s : Shared) (H : Hp) (E : XK), Room k (A.deeper (envOfC qual (defScope st) s.heap.objs.size f cdv)) → Quiet A →
      JSs (cxOf (L2.CX P w) P w K mg base N qual (defScope st) f cdv A outer s H E) (fun cls d _ H => E cls d H) (defBody st) B)
    (pl : ∀ ts h Q E, ts.length = ps.length → c ts h Q E → B (ends Q E) (startT N.length ts) h) : FnOkG P w K mg base (k + 1) f fd ps (liftSp K ps.length c) := by
  refine fnG_of F sc (fun {vs H Q E} z => by
    obtain ⟨S, h, ts, Q', E', m, r, l, _⟩ := z
    exact r.length.trans l) fun cdv A outer s H vs Q E hr hq z => ⟨_, J cdv A outer s H E hr hq, ?_⟩
  obtain ⟨S, h, ts, Q', E', m, r, l, q, pk, px⟩ := z
  refine ⟨S, h, startT N.length ts, ends Q' E', m, RepS.start (N := N) r (by rw [r.length, l]; exact hl), ?_, pl ts h Q' E' l q⟩
  exact { nx := fun S1 H1 h1 σ1 s1 f1 m1 r1 ⟨h2, z, q1⟩ => pk S1 H1 h2 _ _ f1 (m1.sub z) .non q1
          rt := fun S1 H1 h1 v u f1 m1 r1 ⟨h2, z, q1⟩ => pk S1 H1 h2 _ _ f1 (m1.sub z) r1 q1
          bk := fun _ _ _ _ _ _ _ _ z => z.elim
          ct := fun _ _ _ _ _ _ _ _ z => z.elim
          ex := fun S1 H1 h1 σ1 s1 x cls d f1 m1 r1 rx ⟨h2, z, q1⟩ => px S1 H1 h2 x cls d f1 (m1.sub z) rx q1 }
end
section
variable {X : Cx} {W : WX} {k n : Nat} {f : Addr} {fd : FuncData} {ps : List Str} {sp : Sp} {x : Str} {q pos : Pos} {e : Expr} {es : List Expr} {t : TA}
theorem pe_callG {E : L2.St → XK} (F : FnOkG X.prog X.w X.K X.mg X.base k f fd ps sp) (hr : Room k X.A) (hq : Quiet X.A) (hg : Gl X x) (hm : X.mg x = some (.ref f)) (hk : PySem.W.keepIn X.K (.ref f) = true) (hb : Binds X.K fd ps []) (hx : ∀ σ, PassesAt (L2.CX X.prog X.w) X σ (E σ)) (ha : PA X (e :: es) t)
    (hdb : (x == ("__debug__" : Str)) = false := by decide) (he : starEach (e :: es) X.env = (false, eval e X.env) :: starEach es X.env := by rfl) (hpl : (backTo pos (starEach es X.env)).any (·.1) = false := by rfl) :
    PE X (.Call (.Name x q) (e :: es) [] pos) (tCallS sp E t) := by
  constructor
  intro pins s σ H Q I h
  refine wpAny_Call_Name_kw (ld_glob I hg hm (PySem.W.callWith_K (h₀ := X.base) I.ok.mod.kin hk (thn (ha.run pos pins s σ H _ I h) fun us s1 ⟨vs, H1, J, r, hsp⟩ => ⟨J.kIn, ?_⟩) he hpl) hdb)
  have len : us.length = ps.length := r.length.symm.trans (F.ln hsp)
  have b := hb s1 us J.kIn (by rw [List.append_nil]; exact len)
  rw [List.append_nil] at b
  refine wpAny_call (codeAny_mono (F.go hr hq J.env0 b r hsp) fun res s' z => ?_)
  cases res with
  | error y => exact hx σ pins H1 s1 y s' J z
  | ok fl =>
    cases fl with
    | ret u => exact J.after z
    | next => exact False.elim z
    | brk => exact False.elim z
    | cont => exact False.elim z
theorem j_callG {c : Con} {a : AM} (F : FnOkG X.prog X.w X.K X.mg X.base k f fd ps (liftSp X.K n c)) (hr : Room k X.A) (hq : Quiet X.A) (hg : Gl X x) (hm : X.mg x = some (.ref f))
    (hk : PySem.W.keepIn X.K (.ref f) = true) (hb : Binds X.K fd ps []) (hx : ∀ σ, PassesAt (L2.CX X.prog X.w) X σ (WE W σ)) (ha : JA X W (e :: es) a)
    (hd : (x == ("__debug__" : Str)) = false := by decide) (he : starEach (e :: es) X.env = (false, eval e X.env) :: starEach es X.env := by rfl) (hpl : (backTo pos (starEach es X.env)).any (·.1) = false := by rfl) :
    JE X W (.Call (.Name x q) (e :: es) [] pos) (eCall n c a) := PE.wk (pe_callG (E := WE W) F hr hq hg hm hk hb hx ha hd he hpl) fun σ H Q' ⟨S, h, s, Q, E, m, rs, lk, hm, pk⟩ =>
  ⟨S, h, s, _, E, m, rs, lk, hm, fun S1 H1 h1 vs ts f1 m1 r1 ⟨l1, q1⟩ => ⟨S1, h1, ts, Q, _, m1, r1, l1, q1, pk.fut f1, fun S2 H2 h2 x cls d f2 m2 r2 q2 => lk S2 H2 h2 σ s x cls d (f1.trans f2) m2 (rs.fut (f1.trans f2)) r2 q2⟩⟩
def rReprD (K : PySem.W.Frag) : List V → Hp → VK → Prop := fun xs H Q => ∃ v d, xs = [v] ∧ Dp K H v d ∧ d.showable = true ∧ d.hasDict = false ∧ d.depth ≤ 60 ∧ d.shown.length ≤ sizeLine ∧ Q (.str d.shown) H
theorem call_reprD (hq : Quiet X.A) (hu : X.A.units + 64 < cLine) : CallR X (.builtin "repr") (rReprD X.K) := by
  intro pins s σ H xs us Q I r h
  obtain ⟨v, d, rfl, hd, h1, h2, h3, h4, q⟩ := h
  obtain ⟨u, rfl, rv⟩ := vals1 r
  obtain ⟨as, rd⟩ := Dp.reads I d v u hd rv
  have done : ∀ h' tu tk, (∀ b o, s.heap.get? b = some o → h'.get? b = some o) → EP X pins σ Q (.str d.shown tu) { s with heap := h', toks := tk } := fun h' tu tk kp => ⟨.str d.shown, H, I.kept (t' := tk) kp, ⟨tu, rfl⟩, q⟩
  have flat : ∀ tu tk, EP X pins σ Q (.str d.shown tu) { s with toks := tk } := fun tu tk => done s.heap tu tk fun _ _ z => z
  cases rd with
  | none => exact PySem.P.repr_of_none (flat _ _)
  | bool b =>
    have z := flat s.toks (s.toks + 1)
    unfold PyData.shown at z
    refine PySem.P.repr_of_bool ?_
    cases b <;> exact z
  | int i tk =>
    have hi : i.natAbs.log2 < 1920 := by
      unfold PyData.showable at h1
      first
        | exact of_decide_eq_true h1
        | simpa using h1
    have z := flat s.toks (s.toks + 1)
    unfold PyData.shown at z
    exact PySem.P.repr_of_int hi z
  | str y tk =>
    have z := flat s.toks (s.toks + 1)
    unfold PyData.shown at z h4
    exact PySem.P.repr_of_str z h4
  | list z1 z2 z3 z4 => exact repr_of_reads' (.list z1 z2 z3 z4) h1 (fun z => by rw [h2] at z; cases z) hq (by omega) (fun _ _ z => z) (fun h' tu tk kp => done h' tu tk kp) h4
  | tuple z1 z2 z3 z4 => exact repr_of_reads' (.tuple z1 z2 z3 z4) h1 (fun z => by rw [h2] at z; cases z) hq (by omega) (fun _ _ z => z) (fun h' tu tk kp => done h' tu tk kp) h4
  | dict z1 z2 z3 z4 z5 => exact repr_of_reads' (.dict z1 z2 z3 z4 z5) h1 (fun z => by rw [h2] at z; cases z) hq (by omega) (fun _ _ z => z) (fun h' tu tk kp => done h' tu tk kp) h4
def reprD (t : T) : Option Str := match toD t with
  | some d => if d.showable = true ∧ d.hasDict = false ∧ d.depth ≤ 60 ∧ d.shown.length ≤ 1000000 then some d.shown else none
  | none => none
def oReprD : RLT := fun xs h Q => match xs with
  | [x] => match reprD (view h x) with
    | some z => Q (.str z) h
    | none => False
  | _ => False
theorem c_reprD {K : PySem.W.Frag} : CP K (rReprD K) oReprD := fun S H h vs xs Q Q' m r q pk => by
  unfold oReprD at q
  split at q
  · cases r with
    | cons r1 rn =>
      cases rn
      split at q
      · rename_i z e
        unfold reprD at e
        split at e
        · rename_i d ed
          split at e
          · rename_i c
            cases e
            obtain ⟨hd, _⟩ := view_ok m r1 ed
            exact ⟨_, d, rfl, hd, c.1, c.2.1, c.2.2.1, lim_le c.2.2.2, pk S H h _ _ Fut.refl m (.str _) q⟩
          · cases e
        · cases e
      · exact q.elim
  · exact q.elim
end
end TL

set_option maxHeartbeats 4000000
namespace TL
open PySem PySem.Spec PyProof.Rows L2
def hpT (tb : List Addr) (a : Addr) (u : Option HO) : Hp := fun b => if b ∈ tb then some (.tbl #[]) else if b = a then u else none
theorem hpT_in {tb : List Addr} {a b : Addr} {u : Option HO} (h : b ∈ tb) : hpT tb a u b = some (.tbl #[]) := if_pos h
theorem hpT_a {tb : List Addr} {a : Addr} {u : Option HO} (h : a ∉ tb) : hpT tb a u a = u := (if_neg h).trans (if_pos rfl)
theorem hpT_no {tb : List Addr} {a b : Addr} {u : Option HO} (h : b ∉ tb) (h2 : b ≠ a) : hpT tb a u b = none := (if_neg h).trans (if_neg h2)
theorem hpT_cases {tb : List Addr} {a b : Addr} : b ∈ tb ∨ (b = a ∧ b ∉ tb) ∨ (b ∉ tb ∧ b ≠ a) := by
  by_cases h1 : b ∈ tb
  · exact .inl h1
  · by_cases h2 : b = a
    · exact .inr (.inl ⟨h2, h1⟩)
    · exact .inr (.inr ⟨h1, h2⟩)
theorem law_callG {P : Program} {w : World} {K : PySem.W.Frag} {mg mb : Str → Option Value} {k : Nat} {fa a : Addr} {cs : List (Addr × Addr)} {fd : FuncData} {x : Str} {sp : Sp} {s : Shared} {vs : List Value} {ns : List Int}
    (kin : K.In s.heap) (glob : s.heap.Ns mainGlobals mg) (blt : s.heap.Ns builtinsNs mb) (boot : ∀ y : Str, y ≠ "__name__" → mb y = bootBuiltins y) (nolim : s.heap.NoLimit) (nogen : s.gens = #[])
    (tabs : ∀ p ∈ cs, s.heap.get? p.2 = some { cls := .none, data := .fields #[] }) (new : ∀ p ∈ cs, K.lookup p.2 = none) (code : ∀ p ∈ cs, PySem.W.CodeHd s.heap p.1 p.2)
    (bmod : ∃ (m : Addr) (o : Obj), mg "__builtins__" = some (.ref m) ∧ m ≠ builtinsNs ∧ s.heap.get? m = some o ∧ o.cls = .type "module" ∧ o.dict = some builtinsNs ∧ o.data = .plain)
    (list : s.heap.get? a = some { cls := .type "list", data := .seq vs.toArray }) (nums : IntsAre vs ns) (short : ns.length ≤ sizeLine) (room : Room k callerA)
    (F : ∀ base : Heap, K.In base → base.Ns mainGlobals mg → (∀ p ∈ cs, LamX.TabB base mg p.1 p.2) → FnOkG P w K mg base k fa fd [x] sp) (bind : ∀ (s : Shared) (u : Value), BindsTo s fd ⟨[u], []⟩ [(x, u)])
    (want : ∀ H : Hp, (∀ p ∈ cs, H p.2 = some (.tbl #[])) → SqL K H a (ns.map V.int) → sp [.ref a] H (fun v _ => v = .bl true) fun _ _ _ => False) :
    codeAny (model P w) callerA (.call (.ref fa) ⟨[.ref a], []⟩) (fun r s' => r = .ok (.ret (.bool true)) ∧ OldK s.heap s'.heap ∧ s'.os = s.os ∧ AllBare s'.gens) s := by
  have isTab : ∀ b ∈ cs.map (·.2), s.heap.get? b = some { cls := .none, data := .fields #[] } ∧ K.lookup b = none := fun b hb => by
    obtain ⟨p, hp, rfl⟩ := List.mem_map.mp hb
    exact ⟨tabs p hp, new p hp⟩
  have inTab : ∀ p ∈ cs, p.2 ∈ cs.map (·.2) := fun p hp => List.mem_map_of_mem hp
  have aFree : a ∉ cs.map (·.2) := fun z => by
    have e := (isTab a z).1.symm.trans list
    have e2 := congrArg (Option.map Obj.data) e
    cases e2
  suffices main : ∀ u : Option HO, (u = none ∨ u = some (.frz { cls := .type "list", data := .seq vs.toArray } (.lst (ns.map V.int)))) → (u ≠ none → K.lookup a = none) → SqL K (hpT (cs.map (·.2)) a u) a (ns.map V.int) →
      codeAny (model P w) callerA (.call (.ref fa) ⟨[.ref a], []⟩) (fun r s' => r = .ok (.ret (.bool true)) ∧ OldK s.heap s'.heap ∧ s'.os = s.os ∧ AllBare s'.gens) s by
    cases known : K.lookup a with
    | none =>
      exact main _ (.inr rfl) (fun _ => known) (.inl (.inr ⟨_, hpT_a aFree⟩))
    | some o =>
      have e := (kin a o known).symm.trans list
      cases e
      refine main none (.inl rfl) (fun z => absurd rfl z) (.inr ⟨_, vs.toArray, _, known, rfl, rfl, rfl, ?_, ?_⟩)
      · rw [List.size_toArray, nums.length]; exact short
      · have rv := vals_ints nums
        simpa using rv
  intro u hu newA seq
  generalize eT : cs.map (·.2) = tb at *
  generalize eH : hpT tb a u = H at *
  have tabH : ∀ p ∈ cs, H p.2 = some (.tbl #[]) := fun p hp => by rw [← eH]; exact hpT_in (inTab p hp)
  have off : ∀ {b : Addr} {o : Obj}, s.heap.get? b = some o → o.data ≠ .fields #[] → (∀ xs n, o.data ≠ .seq xs n) → H b = none := fun {b o} e n1 n2 => by
    rw [← eH]
    rcases hpT_cases (tb := tb) (a := a) (b := b) with c | ⟨c, _⟩ | ⟨c1, c2⟩
    · rw [(isTab b c).1] at e
      cases e
      exact absurd rfl n1
    · subst c
      rw [list] at e
      cases e
      exact absurd rfl (n2 _ _)
    · exact hpT_no c1 c2
  have okH : HOk P w H s.heap := fun b v e => by
    rw [← eH] at e
    rcases hpT_cases (tb := tb) (a := a) (b := b) with c | ⟨c, c'⟩ | ⟨c1, c2⟩
    · rw [hpT_in c] at e
      cases e
      exact (isTab b c).1
    · subst c
      rw [hpT_a c'] at e
      subst e
      rcases hu with z | z
      · cases z
      · cases z
        exact ⟨list, by rw [List.length_map]; exact short, vs, _, vals_ints nums, list⟩
    · rw [hpT_no c1 c2] at e
      cases e
  have keepK : ∀ {b : Addr} {o : Obj}, s.heap.get? b = some o → H b = none → (hidT s.heap H).get? b = some o := fun e n => hidT_get e n
  have keepN : ∀ {b : Addr} {m : Str → Option Value}, s.heap.Ns b m → (hidT s.heap H).Ns b m := fun {b m} ⟨o, es, ep, e, d, r⟩ => ⟨o, es, ep, keepK e (off e (fun z => by rw [d] at z; cases z) fun _ _ z => by rw [d] at z; cases z), d, r⟩
  have kinB : K.In (hidT s.heap H) := fun b o e => by
    refine keepK (kin b o e) ?_
    rw [← eH]
    rcases hpT_cases (tb := tb) (a := a) (b := b) with c | ⟨c, c'⟩ | ⟨c1, c2⟩
    · rw [(isTab b c).2] at e
      cases e
    · subst c
      rw [hpT_a c']
      cases hu with
      | inl z => exact z
      | inr z =>
        rw [newA (by rw [z]; exact fun w => nomatch w)] at e
        cases e
    · exact hpT_no c1 c2
  obtain ⟨mc, lim1, lim2⟩ := nolim
  have modB : Mod K mg (hidT s.heap H) := ⟨kinB, keepN glob, ⟨mb, keepN blt, boot⟩, ⟨mc, keepN lim1, lim2⟩⟩
  have tabB : ∀ p ∈ cs, LamX.TabB (hidT s.heap H) mg p.1 p.2 := fun p hp => by
    have gN : mainGlobals ≠ p.2 := fun z => by
      obtain ⟨o, es, ep, e, d, _⟩ := glob
      rw [z] at e
      have e2 := congrArg (Option.map Obj.data) (e.symm.trans (tabs p hp))
      dsimp only [Option.map] at e2
      rw [d] at e2
      cases e2
    refine ⟨?_, ?_, gN⟩
    · obtain ⟨o, fs, fl, tf, gs, tg, fr, tx, tt, z1, z2, z3, z4, zs⟩ := code p hp
      refine ⟨o, fs, fl, tf, gs, tg, fr, tx, tt, keepK z1 (off z1 (fun z => ?_) fun _ _ z => ?_), z2, z3, z4, zs⟩
      · rw [z3] at z
        cases z
        cases z4
      · rw [z3] at z
        cases z
    · obtain ⟨m, o, y1, y2, y3, y4, y5, y6⟩ := bmod
      have dataN : ∀ {b : Addr} {o' : Obj}, s.heap.get? b = some o' → o'.data ≠ .plain → m ≠ b := fun {b o'} e n z => by
        subst z
        rw [y3] at e
        cases e
        exact n y6
      have nG : m ≠ mainGlobals := by
        obtain ⟨o', es, ep, e, d, _⟩ := glob
        exact dataN e fun z => by rw [d] at z; cases z
      exact ⟨m, o, y1, y2, nG, dataN (tabs p hp) (fun z => nomatch z), keepK y3 (off y3 (fun z => by rw [y6] at z; cases z) fun _ _ z => by rw [y6] at z; cases z), y4, y5, y6⟩
  have env : Env0 P w K mg (hidT s.heap H) callerA [] s H := ⟨rfl, modB, fun _ _ e => of_hidT e, Nat.le_of_eq (hidT_size _ _), trivial, fun _ hb => absurd hb List.not_mem_nil, okH, .of_eq nogen⟩
  refine codeAny_mono ((F _ kinB (keepN glob) tabB).go (us := [.ref a]) (vs := [.ref a]) room rfl env (bind s (.ref a)) (.cons rfl .nil) (want H tabH seq)) fun r s' res => ?_
  cases r with
  | error e => exact (no_law res).elim
  | ok fl =>
    cases fl with
    | next => exact res.elim
    | brk => exact res.elim
    | cont => exact res.elim
    | ret v =>
      obtain ⟨y, H', os, bare, un, ok', rv, rfl⟩ := res
      cases rv
      have stay : ∀ b o, b ∉ tb → s.heap.get? b = some o → s'.heap.get? b = some o := fun b o nb e => by
        cases tr : H b with
        | none => exact un.keep b o e tr (fun z => by cases z) (fun z => by cases z)
        | some v =>
          have tr0 := tr
          rw [← eH] at tr0
          have ba : b = a := by
            rcases hpT_cases (tb := tb) (a := a) (b := b) with c | ⟨c, _⟩ | ⟨c1, c2⟩
            · exact absurd c nb
            · exact c
            · rw [hpT_no c1 c2] at tr0; cases tr0
          subst ba
          rw [hpT_a nb] at tr0
          rcases hu with z | z
          · rw [z] at tr0; cases tr0
          · rw [z] at tr0
            cases tr0
            obtain ⟨g, _⟩ := ok' b _ (un.frzs b _ _ tr)
            rw [list] at e
            cases e
            exact g
      have grew : ∀ p ∈ cs, ∃ more : Array Value, s'.heap.get? p.2 = some { cls := .none, data := .fields more } := fun p hp => by
        obtain ⟨more, z⟩ := un.tbls p.2 _ (tabH p hp)
        exact ⟨_, ok' _ _ z⟩
      refine ⟨rfl, ⟨fun b o e => ?_, fun b o e => ?_⟩, os, bare⟩
      · rcases Classical.em (b ∈ tb) with c | c
        · rw [← eT] at c
          obtain ⟨p, hp, rfl⟩ := List.mem_map.mp c
          obtain ⟨more, g⟩ := grew p hp
          cases (tabs p hp).symm.trans e
          refine .inr (.inl ⟨((code p hp).tab (tabs p hp)).isCodeTable, rfl, #[], more, rfl, ?_⟩)
          rw [Array.empty_append]
          exact g
        · exact .inl (stay b o c e)
      · rcases Classical.em (b ∈ tb) with c | c
        · rw [← eT] at c
          obtain ⟨p, hp, rfl⟩ := List.mem_map.mp c
          obtain ⟨more, g⟩ := grew p hp
          exact ⟨_, g⟩
        · exact ⟨o, stay b o c e⟩
theorem walk_tabG {l : PySem.W.OpenLaw} {n k : Nat} {q : Program} {loose : List Str} {XP : (Str → Option Value) → Heap → Prop} {YP : World → Heap → Prop} {d : DefRec} {K : Params → PySem.W.Frag} {x : Str}
    (hn : l.most = some n) (hn2 : n ≤ sizeLine) (hdf : d.params.defaults = []) (hr : Room k callerA) (hY : ∀ (w : World) (h : Heap), YP w h → (K w.params).In h)
    (F : ∀ (w : World) (mg : Str → Option Value) (fa : Addr) (h : Heap), (K w.params).In h → h.Ns mainGlobals mg → mg d.name = some (.ref fa) →
      ∃ (fd : FuncData) (cs : List (Str × Addr × Addr × Str)) (sp : Sp), (∀ p ∈ cs, ((recsOf q).find? fun e => e.name == p.1).isSome = true ∧ PySem.W.tabIn (K w.params) p.1 = some (p.2.1, p.2.2.1) ∧ (K w.params).lookup p.2.2.1 = none) ∧ (∀ (s : Shared) (u : Value), BindsTo s fd ⟨[u], []⟩ [(x, u)]) ∧
        (∀ (H : Hp) (a : Addr) (ns : List Int), ns.length ≤ n → (∀ p ∈ cs, H p.2.2.1 = some (.tbl #[])) → SqL (K w.params) H a (ns.map V.int) → sp [.ref a] H (fun v _ => v = .bl true) fun _ _ _ => False) ∧
        ∀ base : Heap, (K w.params).In base → base.Ns mainGlobals mg → (∀ p ∈ cs, LamX.TabB base mg p.2.1 p.2.2.1) → FnOkG l.prog w (K w.params) mg base k fa fd [x] sp) :
    PySem.W.WalkO q loose XP YP l.row.toRowW d [] (fun f vs => PySem.call f vs) := by
  refine Att.attach_callB hn hdf ?_
  intro w s₀ s mg mb fa o pm cd doc a vs ns G Y _ _ _ hmg hobj hints hlen _ hg
  have kx := hY w _ Y
  obtain ⟨fd, cs, sp, hcs, hb, hsp, hF⟩ := F w mg fa s.heap kx G.T.g hmg
  have each : ∀ z ∈ cs, PySem.W.CodeHd s.heap z.2.1 z.2.2.1 ∧ s.heap.get? z.2.2.1 = some { cls := .none, data := .fields #[] } := fun z hz => by
    obtain ⟨c1, c2, _⟩ := hcs z hz
    obtain ⟨_, found⟩ := Option.isSome_iff_exists.mp c1
    exact PySem.W.tab_of G.T kx found c2
  have via : ∀ {C : Addr × Addr → Prop}, (∀ z ∈ cs, C (z.2.1, z.2.2.1)) → ∀ p ∈ cs.map (fun z => (z.2.1, z.2.2.1)), C p := fun {C} h p hp => by
    obtain ⟨z, hz, rfl⟩ := List.mem_map.mp hp
    exact h z hz
  exact law_callG (cs := cs.map fun z => (z.2.1, z.2.2.1)) (sp := sp) kx G.T.g G.T.b G.T.builtins G.T.nolimit hg (via fun z hz => (each z hz).2) (via fun z hz => (hcs z hz).2.2) (via fun z hz => (each z hz).1) G.T.bmain hobj hints (Nat.le_trans hlen hn2) hr
    (fun base b1 b2 b3 => hF base b1 b2 fun z hz => b3 _ (List.mem_map_of_mem (f := fun z => (z.2.1, z.2.2.1)) hz)) hb fun H hH hS => hsp H a ns hlen (fun z hz => hH _ (List.mem_map_of_mem (f := fun z => (z.2.1, z.2.2.1)) hz)) hS
end TL

set_option maxHeartbeats 1000000
namespace TL
open PySem PySem.Spec PySem.Calls PyProof.Rows L2
def ItzM (K : PySem.W.Frag) (a b : Addr) : It :=
  ⟨fun i H => ∃ (xs ys : List V) (x y : V), SqL K H a xs ∧ SqT K H b ys ∧ xs[i]? = some x ∧ ys[i]? = some y,
    fun i H v H' => ∃ TT x y, v = .ref TT ∧ H TT = none ∧ H' = upd H TT (.tup [x, y]) ∧ (∀ xs, SqL K H a xs → xs[i]? = some x) ∧ ∀ ys, SqT K H b ys → ys[i]? = some y,
    fun i H => ∃ xs ys : List V, SqL K H a xs ∧ SqT K H b ys ∧ i = min xs.length ys.length⟩
theorem sep_of {z TI TO i1 i2 a b : Addr} (D : ZipApart z TI TO i1 i2 a b) : ZipSep2 z TI TO i1 i2 [i1, a] [i2, b] := by
  refine ⟨D.TIz, D.TOz, D.TITO, D.TIi1, by simp, ?_, ?_, D.TIi2, by simp, ?_, ?_, ?_, ?_⟩
  · simp only [List.mem_cons, List.not_mem_nil, or_false, not_or]; exact ⟨D.i1z.symm, D.l1z.symm⟩
  · simp only [List.mem_cons, List.not_mem_nil, or_false, not_or]; exact ⟨D.TOi1, D.l1TO.symm⟩
  · simp only [List.mem_cons, List.not_mem_nil, or_false, not_or]; exact ⟨D.i2z.symm, D.l2z.symm⟩
  · simp only [List.mem_cons, List.not_mem_nil, or_false, not_or]; exact ⟨D.TOi2, D.l2TO.symm⟩
  · simp only [List.mem_cons, List.not_mem_nil, or_false, not_or]; exact ⟨D.i12, D.l2i1.symm⟩
  · simp only [List.mem_cons, List.not_mem_nil, or_false, not_or]; exact ⟨D.i12.symm, D.l1i2.symm⟩
theorem turn_zipM {P : Program} {w : World} {K : PySem.W.Frag} {elts : List Expr} {kk : Nat} {tpos : Pos} {a b z TI TO i1 i2 : Addr} (D : ZipApart z TI TO i1 i2 a b) :
    Turn P w K (.Tuple elts kk tpos) (ItzM K a b) [z, TI, TO, i1, i2] z (fun i h => IsZip h z TI TO .none ∧ IsPair h TI (.ref i1) (.ref i2) ∧ (∃ x y, IsPair h TO x y) ∧ h.IsListIter i1 a i ∧ h.IsTupleIter i2 b i) where
  mem := List.mem_cons_self
  obj := fun i h ⟨hz, hTI, ⟨x, y, hTO⟩, ⟨o1, e1, _, d1⟩, ⟨o2, e2, _, d2⟩⟩ c hc => by
    have hc : c = z ∨ c = TI ∨ c = TO ∨ c = i1 ∨ c = i2 := by simpa using hc
    rcases hc with rfl | rfl | rfl | rfl | rfl
    · exact ⟨_, hz, fun v q => nomatch q⟩
    · exact ⟨_, hTI, fun v q => nomatch q⟩
    · exact ⟨_, hTO, fun v q => nomatch q⟩
    · exact ⟨o1, e1, fun v q => by rw [d1] at q; cases q⟩
    · exact ⟨o2, e2, fun v q => by rw [d2] at q; cases q⟩
  keep := fun i h h' ⟨hz, hTI, ⟨x, y, hTO⟩, h1, h2⟩ k => ⟨k z (by simp) _ hz, k TI (by simp) _ hTI, ⟨x, y, k TO (by simp) _ hTO⟩, h1.at (k i1 (by simp)), h2.at (k i2 (by simp))⟩
  item := by
    rintro X rfl rfl rfl hc i pins s σ H E I hf ⟨hz, hTI, ⟨x0, y0, hTO⟩, h1, h2⟩ ⟨xs, ys, x, y, hqx, hqy, hx, hy⟩
    have hh : X.A.in1.handled = none := I.ok.hd hc
    obtain ⟨its, rv, p, _⟩ := I.list hqx
    obtain ⟨its2, rv2, p2, _⟩ := I.tuple hqy
    obtain ⟨u, hu, ru⟩ := rv.get hx
    obtain ⟨u2, hu2, ru2⟩ := rv2.get hy
    have hzl : z < s.heap.objs.size := Heap.lt_size hz
    have l1 : i < its.toArray.size := by have := (List.getElem?_eq_some_iff.mp hu).1; simpa using this
    have l2 : i < its2.toArray.size := by have := (List.getElem?_eq_some_iff.mp hu2).1; simpa using this
    refine wpAny_pyNext_zipD2_item (sep_of D) (Draws.list hh i1 a D.l1i1 its.toArray) (Draws.tuple hh i2 b D.l2i2 its2.toArray) hz hTI hTO ⟨h1, p.isList⟩ ⟨h2, p2⟩ l1 l2 fun w1 w2 h' tk g1 g2 z' TO' s1' s2' hT hsz hk => ?_
    have e1 : w1 = u := by
      have q : its.toArray[i]? = some u := by simpa using hu
      exact Option.some.inj (g1.symm.trans q)
    have e2 : w2 = u2 := by
      have q : its2.toArray[i]? = some u2 := by simpa using hu2
      exact Option.some.inj (g2.symm.trans q)
    subst e1 e2
    refine ⟨_, rfl, wpAny_letOwnedTupleGo_zip (s := { s with heap := h', toks := tk }) z' fun h2' z2 sb => ?_⟩
    have hT2 : h2'.get? s.heap.objs.size = some { cls := .type "tuple", data := .seq #[w1, w2] } := (sb.2 _ (Nat.ne_of_gt hzl)).trans hT
    have new : ObjOk X.prog X.w (upd H s.heap.objs.size (.tup [x, y])) h2' s.heap.objs.size (.tup [x, y]) :=
      ⟨Nat.le_trans (show 2 ≤ 2 from Nat.le_refl 2) (by decide), [w1, w2], .cons ru (.cons ru2 .nil), ⟨_, hT2, rfl, _, rfl⟩⟩
    have nin : ∀ {c : Addr}, c ∉ [z, TI, TO, i1, i2] → c ≠ z ∧ c ≠ TO ∧ c ≠ i1 ∧ c ≠ i2 := fun {c} hb => by
      simp only [List.mem_cons, List.not_mem_nil, or_false, not_or] at hb
      exact ⟨hb.1, hb.2.2.1, hb.2.2.2.1, hb.2.2.2.2⟩
    have I1 : Inv X pins σ (upd H s.heap.objs.size (.tup [x, y])) { s with heap := h2', toks := tk } :=
      I.turnedNew (t' := tk) (ch := [z, TI, TO, i1, i2]) (fun c o hb q => (sb.2 c (nin hb).1).trans (hk c o (nin hb).1 (nin hb).2.1 (nin hb).2.2.1 (nin hb).2.2.2 q)) hf (Nat.le_refl _) new
    refine ⟨.ref s.heap.objs.size, _, I1, rfl, ⟨_, x, y, rfl, I.hok.fresh (Nat.le_refl _), rfl, fun l hl => by rw [I.list_inj hl hqx]; exact hx, fun l hl => by rw [I.tuple_inj hl hqy]; exact hy⟩, ⟨z2, ?_, ⟨w1, w2, ?_⟩, ?_, ?_⟩, fun c hcm => ?_⟩
    · exact (sb.2 _ D.TIz).trans (hk _ _ D.TIz D.TITO D.TIi1 D.TIi2 hTI)
    · exact (sb.2 _ D.TOz).trans TO'
    · exact s1'.1.at fun o q => (sb.2 _ D.i1z).trans q
    · exact s2'.1.at fun o q => (sb.2 _ D.i2z).trans q
    · obtain ⟨f0, _⟩ := hf c hcm
      have hne : c ≠ s.heap.objs.size := by
        have hcm' : c = z ∨ c = TI ∨ c = TO ∨ c = i1 ∨ c = i2 := by simpa using hcm
        rcases hcm' with rfl | rfl | rfl | rfl | rfl
        · exact Nat.ne_of_lt hzl
        · exact Nat.ne_of_lt (Heap.lt_size hTI)
        · exact Nat.ne_of_lt (Heap.lt_size hTO)
        · obtain ⟨_, q, _⟩ := h1; exact Nat.ne_of_lt (Heap.lt_size q)
        · obtain ⟨_, q, _⟩ := h2; exact Nat.ne_of_lt (Heap.lt_size q)
      rw [upd_ne hne]
      exact f0
  done := by
    rintro X rfl rfl rfl hc i pins s σ H E I hf ⟨hz, hTI, ⟨x0, y0, hTO⟩, h1, h2⟩ ⟨xs, ys, hqx, hqy, hi⟩
    have hh : X.A.in1.handled = none := I.ok.hd hc
    obtain ⟨its, rv, p, _⟩ := I.list hqx
    obtain ⟨its2, rv2, p2, _⟩ := I.tuple hqy
    have e1 := rv.length
    have e2 := rv2.length
    have t1 : its.toArray.size = its.length := by simp
    have t2 : its2.toArray.size = its2.length := by simp
    refine wpAny_pyNext_zipD2_end (sep_of D) (Draws.list hh i1 a D.l1i1 its.toArray) (Draws.tuple hh i2 b D.l2i2 its2.toArray) hz hTI hTO ⟨h1, p.isList⟩ ⟨h2, p2⟩ (by omega) (by omega) (by omega) fun h' tk hk => ⟨rfl, ?_⟩
    refine I.turnedL (t' := tk) (ch := [z, TI, TO, i1, i2]) (fun c o hb q => ?_) hf
    simp only [List.mem_cons, List.not_mem_nil, or_false, not_or] at hb
    exact hk c o hb.1 hb.2.2.1 hb.2.2.2.1 hb.2.2.2.2 q
  self := fun A i s Q E st h => wpAny_pyIter_zip st.1 h
def tZipM (K : PySem.W.Frag) (ta : TA) : TI := fun σ H R => ta σ H fun vs H1 => ∃ a b xs ys, vs = [.ref a, .ref b] ∧ SqL K H1 a xs ∧ SqT K H1 b ys ∧ R (ItzM K a b) H1
theorem pi_zipM {X : Cx} {e e2 : Expr} {ta : TA} {p pos tpos : Pos} {elts : List Expr} {kk : Nat} (hg : Gl X "zip") (hm : X.mg "zip" = none) (ha : PA X [e, e2] ta)
    (hs : starEach [e, e2] X.env = (false, eval e X.env) :: starEach [e2] X.env := by rfl) (hpl : (backTo pos (starEach [e2] X.env)).any (·.1) = false := by rfl) :
    PI X (.Tuple elts kk tpos) (.Call (.Name "zip" p) [e, e2] [] pos) (tZipM X.K ta) := by
  refine ⟨fun pins s σ H R I h => ?_⟩
  refine Call_ (ld_blt I hg hm PyProof.Rows.boot_zip (PyProof.Rows.callWith_type1 (thn (ha.run pos pins s σ H _ I h) fun us s1 ⟨vs, H1, I1, r1, a, b, xs, ys, ex, hqx, hqy, q⟩ => ?_) hs hpl))
  subst ex
  cases r1 with
  | cons r rr =>
    cases rr with
    | cons r' rr =>
      cases rr
      cases r
      cases r'
      obtain ⟨its, rv, p1, _⟩ := I1.list hqx
      obtain ⟨its2, rv2, p2, _⟩ := I1.tuple hqy
      obtain ⟨ob, hob, _⟩ := id p2
      refine zip_begins2 (begins_list a its.toArray) (begins_tuple b its2.toArray) p1.isList p2 fun h' hz hTI hTO g1 g2 hsz hk => wpAny_pyIter_zip hz ?_
      refine ⟨s1.heap.objs.size + 4, [s1.heap.objs.size + 4, s1.heap.objs.size + 2, s1.heap.objs.size + 3, s1.heap.objs.size, s1.heap.objs.size + 1], _, _, H1, rfl, I1.kept (t' := s1.toks) hk,
        turn_zipM (PySem.W.ktu_apart s1.heap.objs.size a b p1.lt (Heap.lt_size hob)), ⟨hz, hTI, ⟨_, _, hTO⟩, ⟨_, g1, rfl, rfl⟩, ⟨_, g2, rfl, rfl⟩⟩, fun c hcm => ?_, q⟩
      have hle : s1.heap.objs.size ≤ c := by
        simp only [List.mem_cons, List.not_mem_nil, or_false] at hcm
        rcases hcm with rfl | rfl | rfl | rfl | rfl <;> omega
      exact I1.fpOk hle (I1.hok.fresh hle)
def iZipM (a : AM) : IM := fun s h Q E => a s h (fun xs h1 => match xs with
  | [.lst ts, .tup us] => Q (zipT ts us) (fun _ => True) h1
  | _ => False) E
section
variable {K : PySem.W.Frag}
theorem zipM_it {S : Fz} {H : Hp} {a b : Addr} {vs ws : List V} {ts us : List T} (h1 : ∀ S1 H1, Fu S H S1 H1 → SqL K H1 a vs ∧ RepL K S1 H1 vs ts) (h2 : ∀ S1 H1, Fu S H S1 H1 → SqT K H1 b ws ∧ RepL K S1 H1 ws us) : ItRep K S H (ItzM K a b) (zipT ts us) (fun _ => True) := fun S1 H1 hh f1 m1 st => by
  obtain ⟨q1, r1⟩ := h1 S1 H1 f1
  obtain ⟨q2, r2⟩ := h2 S1 H1 f1
  refine ⟨fun i t e => ?_, ⟨vs, ws, q1, q2, ?_⟩⟩
  · unfold zipT at e
    rw [List.getElem?_map] at e
    cases ez : (ts.zip us)[i]? with
    | none => rw [ez] at e; cases e
    | some p =>
      rw [ez] at e
      cases e
      have ez' := List.getElem?_zip_eq_some.mp ez
      obtain ⟨v, ev, rv⟩ := r1.get ez'.1
      obtain ⟨w, ew, rw'⟩ := r2.get ez'.2
      refine ⟨⟨vs, ws, v, w, q1, q2, ev, ew⟩, fun x H2 y => ?_⟩
      obtain ⟨TT, x', y', rfl, nT, rfl, e1, e2⟩ := y
      obtain rfl : x' = v := Option.some.inj ((e1 vs q1).symm.trans ev)
      obtain rfl : y' = w := Option.some.inj ((e2 ws q2).symm.trans ew)
      obtain ⟨m2, f2⟩ := m1.frozen (u := .tup [x', y']) nT
      exact ⟨_, f2, m2, .tup (.inr rfl) upd_same (.cons (rv.fut f2) (.cons (rw'.fut f2) .nil))⟩
  · unfold zipT
    rw [List.length_map, List.length_zip, r1.length, r2.length]
theorem ji_zipM {X : Cx} {W : WX} {elts : List Expr} {kk : Nat} {tpos : Pos} {e e2 : Expr} {a : AM} {p pos : Pos} (hg : Gl X "zip") (hm : X.mg "zip" = none) (ha : JA X W [e, e2] a) (hs : starEach [e, e2] X.env = (false, eval e X.env) :: starEach [e2] X.env := by rfl) (hpl : (backTo pos (starEach [e2] X.env)).any (·.1) = false := by rfl) : JI X W (.Tuple elts kk tpos) (.Call (.Name "zip" p) [e, e2] [] pos) (iZipM a) := PI.wk (pi_zipM hg hm ha hs hpl) fun σ H R ⟨S, h, s, Q, E, m, rs, lk, hm, pk⟩ =>
  ⟨S, h, s, _, E, m, rs, lk, hm, fun S1 H1 h1 vs ts f1 m1 r1 q1 => by
    split at q1
    · cases r1 with
      | cons ra rn =>
        cases rn with
        | cons rb rn =>
          cases rn
          cases ra with
          | lst s1 hh1 rr1 =>
            cases rb with
            | tup s2 hh2 rr2 =>
              exact ⟨_, _, _, _, rfl, SqL.of hh1, SqT.of hh2, pk S1 H1 h1 _ _ _ f1 m1 (zipM_it (fun S2 H2 f2 => ⟨SqL.of ((f2.kp _ s1).trans hh1), rr1.fu f2⟩) fun S2 H2 f2 => ⟨SqT.of ((f2.kp _ s2).trans hh2), rr2.fu f2⟩) q1⟩
            | tupK hh2 rr2 =>
              exact ⟨_, _, _, _, rfl, SqL.of hh1, .inr hh2, pk S1 H1 h1 _ _ _ f1 m1 (zipM_it (fun S2 H2 f2 => ⟨SqL.of ((f2.kp _ s1).trans hh1), rr1.fu f2⟩) fun S2 H2 f2 => ⟨.inr hh2, rr2.fu f2⟩) q1⟩
    · exact q1.elim⟩
end
section
variable {X : Cx} {W : WX} {K : PySem.W.Frag} {C : Addr}
theorem o_ownCmpT {P : Program} {w : World} {k : Nat} {f : Addr} {fd : FuncData} {ps : List Str} {sp : Sp} {op : CmpOp} {nm : Str} (hop : ∀ (A : Around) (Q E) (s : Shared) (a b : Value), wpAny (model X.prog X.w) A (richCompare op a b) Q E s → wpAny (model X.prog X.w) A (compareOp op a b) Q E s) (hP : X.prog = P) (hw : X.w = w) (hm : Meth X.K C nm f) (hn : nm = (cmpInfo op).2.1) (F : FnOk X.prog X.w X.K X.mg X.base (L2.CX P w) k f fd ps sp) (hr : Room (k + 1) X.A) (hb : Binds X.K fd ps []) :
    OpR X (compareOp op) (rOwnT X.K C sp) := by
  intro pins s σ H x y v u Q I rx ry h
  obtain ⟨a, b, dx, fs, xs, rfl, rfl, ea, eb, q⟩ := h
  obtain rfl : v = .ref a := rx
  obtain rfl : u = .ref b := ry
  obtain ⟨oa, Ja⟩ := instAt I ea
  obtain ⟨its, rv, pl, _⟩ := I.tuple eb
  obtain ⟨mm, fr⟩ := I.fr
  subst hn
  refine hop _ _ _ _ _ _ (PySem.W.cmp_K (tb := .type "tuple") (by have := hr.units; omega) fr I.ok.mod.kin Ja (fun A Q E s' k q => wpAny_typeOf (s := s') (by obtain ⟨o, ho, hc⟩ := pl.typeIs; exact ⟨o, k _ _ ho, hc⟩) q) (by unfold PySem.W.notFirst; rw [show PySem.W.subIn X.K (.type "tuple") (.ref C) = some false from rfl]; simp) hm.at_ hm.fn ?_)
  exact wpAny_mono (run_fnS (us := [.ref a, .ref b]) (vs := [.ref a, .ref b]) (E := fun _ _ _ _ => False) F (hr.mono (Nat.le_succ _)) hb (noneAt hP hw σ) I (.cons rfl (.cons rfl .nil)) q) (fun _ _ z => back_ep z) fun _ _ z => z
end
end TL

namespace TL
open PySem L2
section
variable {K : PySem.W.Frag} {S : Fz} {H : Hp} {h : Hq}
def dvw : Nat → Hq → T → T
  | 0, _, x => x
  | n + 1, h, .ref a => match h a with
    | some (.lst ts) => .lst (ts.map (dvw n h))
    | _ => .ref a
  | n + 1, h, .tup ts => .tup (ts.map (dvw n h))
  | n + 1, h, .lst ts => .lst (ts.map (dvw n h))
  | _ + 1, _, x => x
theorem dvws_ok {n : Nat} (ih : ∀ {v : V} {x : T} {d : PyData}, Rep K S H v x → toD (dvw n h x) = some d → Dp K H v d ∧ d.canLay0 = true) : ∀ {ts : List T} {vs : List V} {ds : List PyData}, RepL K S H vs ts → toDs (ts.map (dvw n h)) = some ds → DpAll K H vs ds ∧ PyData.canLayAll0 ds = true
  | [], _, ds, .nil, e => by cases e; exact ⟨.nil, rfl⟩
  | t :: ts, _, ds, .cons r q, e => by
    rw [List.map_cons] at e
    unfold toDs at e
    split at e
    · rename_i d ds' e1 e2
      cases e
      obtain ⟨a1, a2⟩ := ih r e1
      obtain ⟨b1, b2⟩ := dvws_ok ih q e2
      exact ⟨.cons a1 b1, by unfold PyData.canLayAll0; rw [a2, b2]; rfl⟩
    · cases e
theorem dvw_ok (m : Sim K S H h) : ∀ (n : Nat) {v : V} {x : T} {d : PyData}, Rep K S H v x → toD (dvw n h x) = some d → Dp K H v d ∧ d.canLay0 = true
  | 0, v, x, d, r, e => toD_ok r e
  | n + 1, v, x, d, r, e => by
    cases r with
    | ref a =>
      simp only [dvw] at e
      cases z : h a with
      | none => rw [z] at e; cases e
      | some o =>
        rw [z] at e
        cases o with
        | lst ts =>
          obtain ⟨u, e1, vs, e2, r2⟩ := m.ob a _ z
          subst e2
          cases w : toDs (ts.map (dvw n h)) with
          | none => unfold toD at e; rw [w] at e; cases e
          | some ds =>
            unfold toD at e; rw [w] at e; cases e
            have g := dvws_ok (fun r' e' => dvw_ok m n r' e') r2 w
            exact ⟨.lst (SqL.of e1) g.1, by unfold PyData.canLay0; exact g.2⟩
        | ins C fs => cases e
        | pool => cases e
        | dK _ => cases e
        | dT _ => cases e
        | tab _ => cases e
        | dL _ _ => cases e
    | tup s hh r2 =>
      rename_i a vs ts
      simp only [dvw] at e
      cases w : toDs (ts.map (dvw n h)) with
      | none => unfold toD at e; rw [w] at e; cases e
      | some ds =>
        unfold toD at e; rw [w] at e; cases e
        have g := dvws_ok (fun r' e' => dvw_ok m n r' e') r2 w
        exact ⟨.tup (SqT.of hh) g.1, by unfold PyData.canLay0; exact g.2⟩
    | tupK hh r2 =>
      rename_i a vs ts
      simp only [dvw] at e
      cases w : toDs (ts.map (dvw n h)) with
      | none => unfold toD at e; rw [w] at e; cases e
      | some ds =>
        unfold toD at e; rw [w] at e; cases e
        have g := dvws_ok (fun r' e' => dvw_ok m n r' e') r2 w
        exact ⟨.tup (.inr hh) g.1, by unfold PyData.canLay0; exact g.2⟩
    | lst s hh r2 =>
      rename_i a vs ts
      simp only [dvw] at e
      cases w : toDs (ts.map (dvw n h)) with
      | none => unfold toD at e; rw [w] at e; cases e
      | some ds =>
        unfold toD at e; rw [w] at e; cases e
        have g := dvws_ok (fun r' e' => dvw_ok m n r' e') r2 w
        exact ⟨.lst (SqL.of hh) g.1, by unfold PyData.canLay0; exact g.2⟩
    | non => exact toD_ok (S := S) .non e
    | bl b => exact toD_ok (S := S) (.bl b) e
    | int i => exact toD_ok (S := S) (.int i) e
    | str x => exact toD_ok (S := S) (.str x) e
    | ins a b c => exact toD_ok (.ins a b c) e
    | ty n => exact toD_ok (S := S) (.ty n) e
    | scr a b => exact toD_ok (.scr a b) e
    | scrK b => exact toD_ok (S := S) (.scrK b) e
    | exc a b c => exact toD_ok (.exc a b c) e
    | exc0 => exact toD_ok (S := S) .exc0 e
    | xob a b c d f g => exact toD_ok (.xob a b c d f g) e
def oEqX (n : Nat) : R2T := fun x y h Q => depth? (dvw n h x) = true ∧ depth? (dvw n h y) = true ∧ Q (.bl (eqT (dvw n h x) (dvw n h y))) h
def oNeX (n : Nat) : R2T := fun x y h Q => depth? (dvw n h x) = true ∧ depth? (dvw n h y) = true ∧ Q (.bl (!eqT (dvw n h x) (dvw n h y))) h
theorem p_eqX {n : Nat} : OP K (rEqD K) (oEqX n) := fun S H h v w x y Q Q' m r1 r2 q pk => by
  obtain ⟨q1, q2, q⟩ := q
  obtain ⟨d, e1, n1⟩ := depth?_ok q1
  obtain ⟨e, e2, n2⟩ := depth?_ok q2
  obtain ⟨a1, a2⟩ := dvw_ok m n r1 e1
  obtain ⟨b1, b2⟩ := dvw_ok m n r2 e2
  unfold eqT at q
  rw [e1, e2] at q
  exact ⟨d, e, a1, b1, by unfold SeqAt.shaped; rw [a2]; simpa using n1, by unfold SeqAt.shaped; rw [b2]; simpa using n2, pk S H h _ _ Fut.refl m (.bl _) q⟩
theorem p_neX {n : Nat} : OP K (rNeD K) (oNeX n) := fun S H h v w x y Q Q' m r1 r2 q pk => by
  obtain ⟨q1, q2, q⟩ := q
  obtain ⟨d, e1, n1⟩ := depth?_ok q1
  obtain ⟨e, e2, n2⟩ := depth?_ok q2
  obtain ⟨a1, a2⟩ := dvw_ok m n r1 e1
  obtain ⟨b1, b2⟩ := dvw_ok m n r2 e2
  unfold eqT at q
  rw [e1, e2] at q
  exact ⟨d, e, a1, b1, by unfold SeqAt.shaped; rw [a2]; simpa using n1, by unfold SeqAt.shaped; rw [b2]; simpa using n2, pk S H h _ _ Fut.refl m (.bl _) q⟩
end
end TL

namespace TL
open PySem L2
section
variable {K : PySem.W.Frag}
theorem rep_ints {S : Fz} {H : Hp} : ∀ {ns : List Int} {vs : List V}, RepL K S H vs (ns.map T.int) → vs = ns.map V.int
  | [], _, .nil => rfl
  | n :: ns, _, .cons r q => by
    cases r
    rw [rep_ints q]
    rfl
def oIndI : MT := fun x xs h Q => ∃ (ns : List Int) (n : Int) (j : Nat), lsOf h x = some (ns.map T.int) ∧ xs = [.int n] ∧ ns[j]? = some n ∧ (∀ m, m < j → ns[m]? ≠ some n) ∧ Q (.int (j : Nat)) h
theorem c_indI : MR K (rIndex K) oIndI := fun S H h v vs x xs Q Q' m r1 r2 q pk => by
  obtain ⟨ns, n, j, e, rfl, ej, no, q⟩ := q
  obtain ⟨a, us, rfl, ha, r⟩ := lsOf_ok m r1 e
  obtain rfl := rep_ints r
  cases r2 with
  | cons ry rn =>
    cases rn
    cases ry
    refine ⟨a, ns.map V.int, .int n, j, .int n, rfl, rfl, SqL.of ha, rfl, ?_, by rw [List.getElem?_map, ej]; rfl, ?_, fun k z' hk hz => ?_, pk S H h _ _ Fut.refl m (.int _) q⟩
    · rw [List.all_eq_true]
      intro z hz
      obtain ⟨i, _, rfl⟩ := List.mem_map.mp hz
      rfl
    · show decide (n = n) = true
      exact decide_eq_true rfl
    · rw [List.getElem?_map] at hz
      cases ek : ns[k]? with
      | none => rw [ek] at hz; cases hz
      | some i =>
        rw [ek] at hz
        cases hz
        show decide (i = n) = false
        exact decide_eq_false fun c => no k hk (by rw [ek, c])
end
end TL

namespace TL
open PySem L2
section
variable {K : PySem.W.Frag}
def isSt : T → Hq → Prop := fun x _ => ∃ z, x = .str z
theorem ty_str : TyOk K "str" isSt := fun S H h v x m r k => by
  obtain ⟨z, rfl⟩ := k
  cases r
  rfl
def oStrip : MT := fun x xs h Q => ∃ z y : Str, x = .str z ∧ xs = [.str y] ∧ z.length ≤ lim ∧ Q (.str (Txt.stripChars z y)) h
theorem c_strip : MR K (fun x xs H Q => ∃ a b, x = V.str a ∧ xs = [V.str b] ∧ a.length ≤ sizeLine ∧ Q (.str (Txt.stripChars a b)) H) oStrip := fun S H h v vs x xs Q Q' m r1 r2 q pk => by
  obtain ⟨z, y, rfl, rfl, hl, q⟩ := q
  cases r1
  cases r2 with
  | cons ry rn =>
    cases rn
    cases ry
    exact ⟨z, y, rfl, rfl, lim_le hl, pk S H h _ _ Fut.refl m (.str _) q⟩
theorem rep_strs {S : Fz} {H : Hp} : ∀ ys : List Str, RepL K S H (ys.map V.str) (ys.map T.str)
  | [] => .nil
  | y :: ys => .cons (.str y) (rep_strs ys)
theorem strs_rep {S : Fz} {H : Hp} : ∀ {ys : List Str} {vs : List V}, RepL K S H vs (ys.map T.str) → vs = ys.map V.str
  | [], _, .nil => rfl
  | y :: ys, _, .cons r q => by
    cases r
    rw [strs_rep q]
    rfl
def oSplit (fl : Bool) : MT := fun x xs h Q => ∃ z y : Str, x = .str z ∧ xs = [.str y] ∧ (y.length == 0) = false ∧ z.length + 2 ≤ lim ∧ mk fl ((Txt.split z y).map T.str) h Q
theorem c_split (fl : Bool) : MR K (fun x xs H Q => ∃ a b, x = V.str a ∧ xs = [V.str b] ∧ (b.length == 0) = false ∧ a.length + 2 ≤ sizeLine ∧ rNewStrs (Txt.split a b) H Q) (oSplit fl) := fun S H h v vs x xs Q Q' m r1 r2 q pk => by
  obtain ⟨z, y, rfl, rfl, hb, hl, q⟩ := q
  cases r1
  cases r2 with
  | cons ry rn =>
    cases rn
    cases ry
    exact ⟨z, y, rfl, rfl, hb, lim_le hl, mk_ok m (rep_strs _) q pk⟩
def oJoin : MT := fun x xs h Q => ∃ (z : Str) (t : T) (ys : List Str), x = .str z ∧ xs = [t] ∧ lsOf h t = some (ys.map T.str) ∧ (ys.map (·.length)).sum + ys.length * z.length ≤ 16777216 ∧ Q (.str (Txt.join z ys)) h
theorem c_join : MR K (fun x xs H Q => ∃ a p, ∃ ys : List Str, x = V.str a ∧ xs = [V.ref p] ∧ (SqL K H p (ys.map V.str) ∨ SqT K H p (ys.map V.str)) ∧ (ys.map (·.length)).sum + ys.length * a.length ≤ 16777216 ∧ Q (.str (Txt.join a ys)) H) oJoin := fun S H h v vs x xs Q Q' m r1 r2 q pk => by
  obtain ⟨z, t, ys, rfl, rfl, e, hl, q⟩ := q
  cases r1
  cases r2 with
  | cons ry rn =>
    cases rn
    obtain ⟨a, us, rfl, ha, r⟩ := lsOf_ok m ry e
    obtain rfl := strs_rep r
    exact ⟨z, a, ys, rfl, rfl, .inl (SqL.of ha), hl, pk S H h _ _ Fut.refl m (.str _) q⟩
end
end TL

set_option maxHeartbeats 1000000
namespace TL
open PySem L2
section
variable {X : Cx} {K : PySem.W.Frag} {C : Addr}
def rOwnL (K : PySem.W.Frag) (C : Addr) (sp : Sp) : R2 := fun v w H Q => ∃ a b dx fs xs, v = .ref a ∧ w = .ref b ∧ H a = some (.ins C dx fs) ∧ SqL K H b xs ∧ sp [.ref a, .ref b] H Q fun _ _ _ => False
def rOwnNeL (K : PySem.W.Frag) (C : Addr) (sp : Sp) : R2 := fun v w H Q => ∃ a b dx fs xs, v = .ref a ∧ w = .ref b ∧ H a = some (.ins C dx fs) ∧ SqL K H b xs ∧ sp [.ref a, .ref b] H (fun z H1 => ∃ r, z = .bl r ∧ Q (.bl (!r)) H1) fun _ _ _ => False
def oOwnL (C : Addr) (c : Con) : R2T := fun x y h Q => match insOf h x, y with
  | some (C1, _), .lst _ => C1 = C ∧ c [x, y] h Q fun _ _ => False
  | _, _ => False
def oOwnNeL (C : Addr) (c : Con) : R2T := fun x y h Q => match insOf h x, y with
  | some (C1, _), .lst _ => C1 = C ∧ c [x, y] h (fun v h1 => match v with
    | .bl b => Q (.bl (!b)) h1
    | _ => False) fun _ _ => False
  | _, _ => False
theorem p_ownL {c : Con} : OP K (rOwnL K C (liftSp K 2 c)) (oOwnL C c) := fun S H h v w x y Q Q' m r1 r2 q pk => by
  unfold oOwnL at q
  split at q
  · rename_i C1 g1 ts e1
    obtain ⟨rfl, q⟩ := q
    obtain ⟨a, dx, fs, rfl, ea, _⟩ := insOf_ok m r1 e1
    cases r2 with
    | lst s hh r => exact ⟨a, _, dx, fs, _, rfl, rfl, ea, SqL.of hh, S, h, [x, .lst ts], Q, _, m, .cons r1 (.cons (.lst s hh r) .nil), rfl, q, pk, fun _ _ _ _ _ _ _ _ _ z => z.elim⟩
  · exact q.elim
theorem p_ownNeL {c : Con} : OP K (rOwnNeL K C (liftSp K 2 c)) (oOwnNeL C c) := fun S H h v w x y Q Q' m r1 r2 q pk => by
  unfold oOwnNeL at q
  split at q
  · rename_i C1 g1 ts e1
    obtain ⟨rfl, q⟩ := q
    obtain ⟨a, dx, fs, rfl, ea, _⟩ := insOf_ok m r1 e1
    cases r2 with
    | lst s hh r =>
      refine ⟨a, _, dx, fs, _, rfl, rfl, ea, SqL.of hh, S, h, [x, .lst ts], _, _, m, .cons r1 (.cons (.lst s hh r) .nil), rfl, q, fun S1 H1 h1 z u f1 m1 r3 q3 => ?_, fun _ _ _ _ _ _ _ _ _ z => z.elim⟩
      dsimp only at q3
      split at q3
      · cases r3; exact ⟨_, rfl, pk S1 H1 h1 _ _ f1 m1 (.bl _) q3⟩
      · exact q3.elim
  · exact q.elim
theorem listType {pins : List (Addr × Obj)} {σ : L2.St} {H : Hp} {s : Shared} {b : Addr} {xs : List V} (I : Inv X pins σ H s) (eb : SqL X.K H b xs) : PySem.W.Looks (model X.prog X.w) s.heap (typeOf (.ref b)) (.type "list") := by
  obtain ⟨its, rv, ⟨o, n, e, hc, _⟩, _⟩ := I.list eb
  exact fun A Q E s' k q => wpAny_typeOf (s := s') ⟨o, k _ _ e, hc⟩ q
theorem o_ownCmpL {P : Program} {w : World} {k : Nat} {f : Addr} {fd : FuncData} {ps : List Str} {sp : Sp} {op : CmpOp} {nm : Str} (hop : ∀ (A : Around) (Q E) (s : Shared) (a b : Value), wpAny (model X.prog X.w) A (richCompare op a b) Q E s → wpAny (model X.prog X.w) A (compareOp op a b) Q E s) (hP : X.prog = P) (hw : X.w = w) (hm : Meth X.K C nm f) (hn : nm = (cmpInfo op).2.1) (F : FnOk X.prog X.w X.K X.mg X.base (L2.CX P w) k f fd ps sp) (hr : Room (k + 1) X.A) (hb : Binds X.K fd ps []) :
    OpR X (compareOp op) (rOwnL X.K C sp) := by
  intro pins s σ H x y v u Q I rx ry h
  obtain ⟨a, b, dx, fs, xs, rfl, rfl, ea, eb, q⟩ := h
  obtain rfl : v = .ref a := rx
  obtain rfl : u = .ref b := ry
  obtain ⟨oa, Ja⟩ := instAt I ea
  obtain ⟨mm, fr⟩ := I.fr
  subst hn
  refine hop _ _ _ _ _ _ (PySem.W.cmp_K (tb := .type "list") (by have := hr.units; omega) fr I.ok.mod.kin Ja (listType I eb) (by unfold PySem.W.notFirst; rw [show PySem.W.subIn X.K (.type "list") (.ref C) = some false from rfl]; simp) hm.at_ hm.fn ?_)
  exact wpAny_mono (run_fnS (us := [.ref a, .ref b]) (vs := [.ref a, .ref b]) (E := fun _ _ _ _ => False) F (hr.mono (Nat.le_succ _)) hb (noneAt hP hw σ) I (.cons rfl (.cons rfl .nil)) q) (fun _ _ z => back_ep z) fun _ _ z => z
theorem o_ownNeL {P : Program} {w : World} {k : Nat} {f : Addr} {fd : FuncData} {ps : List Str} {sp : Sp} (hP : X.prog = P) (hw : X.w = w) (hm : Meth X.K C "__eq__" f) (hne : PySem.W.findIn X.K (.ref C) "__ne__" = some (some (.builtin "object.__ne__"))) (hsub : PySem.W.subIn X.K (.ref C) (.type "object") = some true) (F : FnOk X.prog X.w X.K X.mg X.base (L2.CX P w) k f fd ps sp) (hr : Room (k + 1) X.A) (hb : Binds X.K fd ps []) :
    OpR X (compareOp .NotEq) (rOwnNeL X.K C sp) := by
  intro pins s σ H x y v u Q I rx ry h
  obtain ⟨a, b, dx, fs, xs, rfl, rfl, ea, eb, q⟩ := h
  obtain rfl : v = .ref a := rx
  obtain rfl : u = .ref b := ry
  obtain ⟨oa, Ja⟩ := instAt I ea
  refine ne_own (tb := .type "list") (by have := hr.units; omega) I.kIn Ja (listType I eb) (by unfold PySem.W.notFirst; rw [show PySem.W.subIn X.K (.type "list") (.ref C) = some false from rfl]; simp) hne hsub hm.at_ hm.fn ?_
  refine wpAny_mono (run_fn1 (us := [.ref a, .ref b]) (vs := [.ref a, .ref b]) hP hw F hr hb I (.cons rfl (.cons rfl .nil)) q) (fun z s' ⟨v, H1, I1, r1, r, e, q1⟩ => ?_) fun _ _ z => z
  subst e
  obtain rfl : z = .bool r := r1
  exact ⟨r, rfl, .bl (!r), H1, I1, rfl, q1⟩
end
section
variable {K : PySem.W.Frag} {S : Fz} {H : Hp} {h : Hq}
def oInX (n : Nat) (neg : Bool) : R2T := fun x y h Q => match dvw n h y with
  | .lst ys => depth? (dvw n h x) = true ∧ depth? (.lst ys) = true ∧ Q (.bl (inT (dvw n h x) ys != neg)) h
  | _ => False
theorem in_partsX {n : Nat} (m : Sim K S H h) {v w : V} {x y : T} {ys : List T} (r1 : Rep K S H v x) (r2 : Rep K S H w y) (ey : dvw n h y = .lst ys) (q1 : depth? (dvw n h x) = true) (q2 : depth? (.lst ys) = true) :
    ∃ d ds, Dp K H v d ∧ Dp K H w (.list ds) ∧ SeqAt.shaped d = true ∧ SeqAt.shaped (.list ds) = true ∧ (ds.any fun z => PyData.eqv z d) = inT (dvw n h x) ys := by
  obtain ⟨d, e1, n1⟩ := depth?_ok q1
  obtain ⟨e, e2, n2⟩ := depth?_ok q2
  obtain ⟨a1, a2⟩ := dvw_ok m n r1 e1
  have e2' := e2
  rw [← ey] at e2'
  obtain ⟨b1, b2⟩ := dvw_ok m n r2 e2'
  cases z : toDs ys with
  | none => unfold toD at e2; rw [z] at e2; cases e2
  | some ds =>
    unfold toD at e2; rw [z] at e2; cases e2
    exact ⟨d, ds, a1, b1, by unfold SeqAt.shaped; rw [a2]; simpa using n1, by unfold SeqAt.shaped; rw [b2]; simpa using n2, any_toD e1 z⟩
theorem p_inX {n : Nat} : OP K (rInD K) (oInX n false) := fun S H h v w x y Q Q' m r1 r2 q pk => by
  unfold oInX at q
  split at q
  · rename_i ys ey
    obtain ⟨q1, q2, q⟩ := q
    obtain ⟨d, ds, a, b, c1, c2, e⟩ := in_partsX m r1 r2 ey q1 q2
    rw [← e] at q
    exact ⟨d, ds, a, b, c1, c2, pk S H h _ _ Fut.refl m (.bl _) (by simpa using q)⟩
  · exact q.elim
end
def tyN (h : Hq) (x : T) : Option String := match kdOf h x with
  | some k => some k.nm
  | none => match x with
    | .ref a => match h a with
      | some (.dK _) => some "dict"
      | _ => none
    | _ => none
def oIsiN : RLT := fun xs h Q => match xs with
  | [x, .ty n] => match tyN h x, kdN n with
    | some k, some c => match kitB k c.nm with
      | some b => Q (.bl b) h
      | none => False
    | _, _ => False
  | _ => False
section
variable {K : PySem.W.Frag} {S : Fz} {H : Hp} {h : Hq}
theorem ty_tyN (m : Sim K S H h) {v : V} {x : T} {k : String} (r : Rep K S H v x) (e : tyN h x = some k) : TyX K H v (.type k) := by
  unfold tyN at e
  split at e
  · rename_i c ec
    cases e
    exact kd_ty m r ec
  · split at e
    · rename_i b _
      split at e
      · rename_i gs z
        cases e
        cases r
        obtain ⟨u, e1, kvs, e2, _⟩ := m.ob b _ z
        subst e2
        exact .base (.dK e1)
      · cases e
    · cases e
theorem c_isiN : CP K (rIsi K) oIsiN := fun S H h vs xs Q Q' m r q pk => by
  unfold oIsiN at q
  split at q
  · cases r with
    | cons r1 rn => cases rn with
      | cons r2 rn =>
        cases rn
        split at q
        · rename_i k c e1 e2
          obtain ⟨rfl, hc⟩ := kdN_nm e2
          cases r2
          split at q
          · rename_i b eb
            exact ⟨_, _, _, _, _, rfl, .ty _, ty_tyN m r1 e1, kit_ty eb, pk S H h _ _ Fut.refl m (.bl _) q⟩
          · exact q.elim
        · exact q.elim
  · exact q.elim
end
def sD : T → Option PyData
  | .non => some .none
  | .bl b => some (.bool b)
  | .int i => if i.natAbs.log2 < 1920 then some (.int i) else none
  | .str x => some (.str x)
  | _ => none
def sV : V → Option PyData
  | .non => some .none
  | .bl b => some (.bool b)
  | .int i => if i.natAbs.log2 < 1920 then some (.int i) else none
  | .str x => some (.str x)
  | _ => none
def kD : Key → Option PyData
  | .inl i => if i.natAbs.log2 < 1920 then some (.int i) else none
  | .inr x => some (.str x)
def pD {α : Type} (f : α → Option PyData) : List (Key × α) → Option (List (PyData × PyData))
  | [] => some []
  | (k, v) :: r => match kD k, f v, pD f r with
    | some a, some b, some c => some ((a, b) :: c)
    | _, _, _ => none
theorem sV_reads {h : Heap} {v : V} {u : Value} {d : PyData} (r : RelV v u) (e : sV v = some d) : Reads h u d [] ∧ d.showable = true ∧ d.depth = 0 := by
  cases v with
  | non => cases e; cases r; exact ⟨.none, by unfold PyData.showable; rfl, by unfold PyData.depth; rfl⟩
  | bl b => cases e; cases r; exact ⟨.bool _, by unfold PyData.showable; rfl, by unfold PyData.depth; rfl⟩
  | int i =>
    have e : (if i.natAbs.log2 < 1920 then some (PyData.int i) else none) = some d := e
    split at e
    · rename_i c
      cases e
      obtain ⟨t, rfl⟩ := r
      exact ⟨.int _ _, by unfold PyData.showable; exact decide_eq_true c, by unfold PyData.depth; rfl⟩
    · cases e
  | str x => cases e; obtain ⟨t, rfl⟩ := r; exact ⟨.str _ _, by unfold PyData.showable; rfl, by unfold PyData.depth; rfl⟩
  | _ => cases e
theorem kD_reads {h : Heap} {k : Key} {u : Value} {d : PyData} (r : keyIs k u = true) (e : kD k = some d) : Reads h u d [] ∧ d.showable = true ∧ d.depth = 0 := by
  rcases keyIs_shape r with ⟨i, t, rfl, rfl⟩ | ⟨x, t, rfl, rfl⟩
  · exact sV_reads (v := .int i) ⟨t, rfl⟩ e
  · exact sV_reads (v := .str x) ⟨t, rfl⟩ e
theorem pD_reads {P : Program} {w : World} {h : Heap} : ∀ {es : List DictEntry} {kvs : List (Key × V)} {vs : List (Key × Value)} {ds : List (PyData × PyData)}, PySem.Pairs (mixKind P w) es vs → KV kvs vs → pD sV kvs = some ds →
    ReadsAll h (es.map (·.key)) (ds.map (·.1)) [] ∧ ReadsAll h (es.map (·.val)) (ds.map (·.2)) [] ∧ PyData.showableKv ds = true ∧ PyData.depthKv ds = 0
  | [], _, _, _, p, kv, e => by
    cases p
    cases kv
    cases e
    exact ⟨.nil, .nil, by unfold PyData.showableKv; rfl, by unfold PyData.depthKv; rfl⟩
  | a :: es, kvs, vs, ds, p, kv, e => by
    cases p with
    | cons p1 p2 p3 =>
      cases kv with
      | cons k1 k2 =>
        rename_i kv0 kvr kq kqs
        obtain ⟨k0, v0⟩ := kq
        obtain ⟨rfl, rv⟩ := k1
        unfold pD at e
        split at e
        · rename_i da db dc ea eb ec
          cases e
          obtain ⟨x1, x2, x3⟩ := kD_reads (h := h) p1 ea
          obtain ⟨y1, y2, y3⟩ := sV_reads (h := h) rv eb
          obtain ⟨z1, z2, z3, z4⟩ := pD_reads (h := h) p3 k2 ec
          refine ⟨?_, ?_, ?_, ?_⟩
          · have := ReadsAll.cons x1 z1
            exact this
          · rw [List.map_cons, List.map_cons, p2]
            have := ReadsAll.cons y1 z2
            exact this
          · unfold PyData.showableKv
            rw [x2, y2, z3]; rfl
          · unfold PyData.depthKv
            rw [x3, y3, z4]; rfl
        · cases e
section
variable {X : Cx}
def rReprDict : List V → Hp → VK → Prop := fun xs H Q => ∃ a kvs ds, xs = [.ref a] ∧ H a = some (.dK kvs) ∧ pD sV kvs = some ds ∧ (PyData.dict ds).shown.length ≤ sizeLine ∧ Q (.str (PyData.dict ds).shown) H
theorem call_reprDict (hq : Quiet X.A) (hu : X.A.units + 64 < cLine) : CallR X (.builtin "repr") rReprDict := by
  intro pins s σ H xs us Q I r h
  obtain ⟨a, kvs, ds, rfl, ha, ed, hz, q⟩ := h
  obtain ⟨u, rfl, rv⟩ := vals1 r
  cases (show u = Value.ref a from rv)
  obtain ⟨_, ns, vs, kv, o, es, ep, g, ex, dd, _, pr, _⟩ := I.hok a _ ha
  obtain ⟨z1, z2, z3, z4⟩ := pD_reads (h := s.heap) pr kv ed
  have rd : Reads s.heap (.ref a) (.dict ds) ([a] ++ []) := .dict g ex.1 dd z1 z2
  refine repr_of_reads' rd (by unfold PyData.showable; exact z3) (fun _ z => ?_) hq ?_ (fun _ _ z => z) (fun h' tu tk kp => ⟨.str (PyData.dict ds).shown, H, I.kept (t' := tk) kp, ⟨tu, rfl⟩, q⟩) hz
  · rw [List.append_nil, List.mem_singleton] at z
    subst z
    simp at ns
  · unfold PyData.depth
    rw [z4]
    omega
def reprX (h : Hq) (t : T) : Option Str := match t with
  | .ref a => match h a with
    | some (.dK gs) => match pD sD gs with
      | some ds => if (PyData.dict ds).shown.length ≤ 1000000 then some (PyData.dict ds).shown else none
      | none => none
    | _ => reprD (view h t)
  | t => reprD (view h t)
def oReprX : RLT := fun xs h Q => match xs with
  | [x] => match reprX h x with
    | some z => Q (.str z) h
    | none => False
  | _ => False
def rReprX (K : PySem.W.Frag) : List V → Hp → VK → Prop := fun xs H Q => rReprD K xs H Q ∨ rReprDict xs H Q
theorem call_reprX (hq : Quiet X.A) (hu : X.A.units + 64 < cLine) : CallR X (.builtin "repr") (rReprX X.K) := fun pins s σ H xs us Q I r h => h.elim (fun z => call_reprD hq hu pins s σ H xs us Q I r z) fun z => call_reprDict hq hu pins s σ H xs us Q I r z
theorem sD_sV {K : PySem.W.Frag} {S : Fz} {H : Hp} {v : V} {t : T} {d : PyData} (r : Rep K S H v t) (e : sD t = some d) : sV v = some d := by
  cases r <;> first
    | exact e
    | cases e
theorem pD_rep {K : PySem.W.Frag} {S : Fz} {H : Hp} : ∀ {kvs : List (Key × V)} {gs : List (Key × T)} {ds : List (PyData × PyData)}, kvs.map (·.1) = gs.map (·.1) → RepL K S H (kvs.map (·.2)) (gs.map (·.2)) → pD sD gs = some ds → pD sV kvs = some ds
  | [], [], _, _, _, e => e
  | [], _ :: _, _, h, _, _ => by cases h
  | _ :: _, [], _, h, _, _ => by cases h
  | (k, v) :: kvs, (k', t) :: gs, ds, h, r, e => by
    rw [List.map_cons, List.map_cons] at h r
    injection h with h1 h2
    have h1 : k = k' := h1
    subst h1
    cases r with
    | cons r1 r2 =>
      unfold pD at e ⊢
      split at e
      · rename_i da db dc ea eb ec
        cases e
        rw [ea, sD_sV r1 eb, pD_rep h2 r2 ec]
      · cases e
theorem c_reprX {K : PySem.W.Frag} : CP K (rReprX K) oReprX := fun S H h vs xs Q Q' m r q pk => by
  unfold oReprX at q
  split at q
  · rename_i x
    have flat : ∀ z, reprD (view h x) = some z → Q (.str z) h → rReprX K vs H Q' := fun z e q => .inl (c_reprD S H h vs [x] Q Q' m r (show (match reprD (view h x) with | some z => Q (.str z) h | none => False) by rw [e]; exact q) pk)
    split at q
    · rename_i z e
      unfold reprX at e
      split at e
      · rename_i a
        split at e
        · rename_i gs eg
          split at e
          · rename_i ds ed
            split at e
            · rename_i c
              cases e
              cases r with
              | cons r1 rn =>
                cases rn
                cases r1
                obtain ⟨u, e1, kvs, e2, rd⟩ := m.ob a _ eg
                subst e2
                exact .inr ⟨a, kvs, ds, rfl, e1, pD_rep rd.1 rd.2 ed, lim_le c, pk S H h _ _ Fut.refl m (.str _) q⟩
            · cases e
          · cases e
        · exact flat z e q
      · exact flat z e q
    · exact q.elim
  · exact q.elim
end
end TL

set_option maxHeartbeats 4000000
namespace TL
open PySem PySem.Spec PyProof.Rows L2
theorem tuple_mul1 (l : Addr) (items : Array Value) (n : Nat) (dd : Option Addr) (sl : Array (Option Value)) (u : Tok) :
    Meets (Builtin.«tuple.__mul__» ⟨[.ref l, .int 1 u], []⟩) (fun _ R s => s.heap.get? l = some { cls := .type "tuple", dict := dd, data := .seq items n, slots := sl } ∧ R (.ok (.ret (Value.ref l))) s) :=
  .of_wp fun prog w A R s h => by
    obtain ⟨hp, g, d, tk, os⟩ := s
    obtain ⟨hl, h⟩ := h
    have f1 := AutoSeq1.idx_int
    wp_walk using wpAny_loadPart' hl
    repeat (first
      | (refine wpAny_ite_false (decide_eq_false (by decide)) ?_; wp_walk using wpAny_loadPart' hl)
      | (refine wpAny_ite_true (by simp) ?_; wp_walk using wpAny_loadPart' hl))
    exact ⟨_, rfl, h⟩
def rRep1 (K : PySem.W.Frag) : R2 := fun x y H Q => ∃ l xs, x = .ref l ∧ y = .int 1 ∧ SqT K H l xs ∧ Q (.ref l) H
section
variable {X : Cx}
theorem op_rep1 : OpR X (binaryOp .Mult) (rRep1 X.K) := by
  intro pins s σ H x y v u Q I rx ry h
  obtain ⟨l, xs, rfl, rfl, hT, q⟩ := h
  cases rx
  obtain ⟨t, rfl⟩ := ry
  obtain ⟨its, r, ⟨⟨cls, dd, data, sl⟩, ho, hc, n, hd⟩, hs⟩ := I.tuple hT
  simp only at hc hd
  subst hc hd
  refine wpAny_binaryOp_repeat_ref (T := "tuple") (U := "int") (by decide) ⟨_, ho, rfl⟩ (fun s' => typeIs_int s' 1 t) noFill_tuple_mul F.fills_int_mul F.slot_int_rmul repeat_tuple F.slot_int_index.lookup
    (call_meets F.slot_int_rmul (typeIs_int s 1 t) F.entry_int_rmul (F.args_int_rmul_2 _ _) (int_rmul_tuple 1 t l its.toArray n dd sl)
      ⟨ho, rfl, ⟨_, ho, rfl⟩, call_meets F.slot_tuple_mul ⟨_, ho, rfl⟩ F.entry_tuple_mul (F.args_tuple_mul_2 _ _) (tuple_mul1 l its.toArray n dd sl t) ⟨ho, ?_⟩⟩)
  exact ⟨.ref l, H, I, rfl, q⟩
end
def rRepM (K : PySem.W.Frag) : R2 := fun x y H Q => rRep1 K x y H Q ∨ rRepT K x y H Q
theorem op_repM {X : Cx} : OpR X (binaryOp .Mult) (rRepM X.K) := OpR.or op_rep1 op_repT
def oRepM : R2T := fun x y h Q => match x, y with
  | .tup xs, .int k => xs ≠ [] ∧ xs.length ≤ 1000 ∧ 1 ≤ k ∧ k ≤ 1000 ∧ Q (.tup (List.replicate k.toNat xs).flatten) h
  | _, _ => False
theorem p_repM {K : PySem.W.Frag} : OP K (rRepM K) oRepM := fun S H h v w x y Q Q' m r1 r2 q pk => by
  unfold oRepM at q
  split at q
  · rename_i xs k
    obtain ⟨ne, l, k1, k2, q⟩ := q
    obtain ⟨a, vs, rfl, sq, rl⟩ := rep_tup r1
    cases r2
    by_cases c : k = 1
    · subst c
      have q' : Q (.tup xs) h := by
        have e : (List.replicate (1 : Int).toNat xs).flatten = xs := by
          show (List.replicate 1 xs).flatten = xs
          simp
        rw [e] at q
        exact q
      exact .inl ⟨a, vs, rfl, rfl, sq, pk S H h _ _ Fut.refl m r1 q'⟩
    · refine .inr ⟨a, k, vs, rfl, rfl, sq, fun z => ne ?_, by omega, k2, by rw [rl.length]; exact l, tup_ok m (rl.replicate _) q pk⟩
      have := rl.length
      rw [z] at this
      exact List.length_eq_zero_iff.mp this.symm
  · exact q.elim
theorem ev_repM {x y : EM} {xs : List T} {k : Int} {s : Sl} {h : Hq} {E : EX} (hx : Ev s h E x (.tup xs)) (hy : Ev s h E y (.int k)) (ne : xs ≠ []) (l : xs.length ≤ 1000) (k1 : 1 ≤ k) (k2 : k ≤ 1000) : Ev s h E (eOp oRepM x y) (.tup (List.replicate k.toNat xs).flatten) := ev_op hx hy fun Q q => ⟨ne, l, k1, k2, q⟩
end TL

set_option maxHeartbeats 1000000
namespace TL
open PySem L2
theorem strOk_app (x y : Str) : PyData.strOk (x ++ y) = (PyData.strOk x && PyData.strOk y) := by
  show (x.cps ++ y.cps).all _ = _
  rw [Array.all_append]
  rfl
theorem len_app (x y : Str) : (x ++ y).length = x.length + y.length := strLen_append x y
def Sh (n : Nat) (x : Str) : Prop := x.length ≤ n ∧ PyData.strOk x = true
theorem Sh.app {n m : Nat} {x y : Str} (a : Sh n x) (b : Sh m y) : Sh (n + m) (x ++ y) := ⟨by rw [len_app]; exact Nat.add_le_add a.1 b.1, by rw [strOk_app, a.2, b.2]; rfl⟩
theorem Sh.le {n m : Nat} {x : Str} (a : Sh n x) (h : n ≤ m) : Sh m x := ⟨Nat.le_trans a.1 h, a.2⟩
theorem Sh.of (s : String) (n : Nat) (h : (s : Str).length ≤ n) : Sh n (s : Str) := ⟨h, strOk_of s⟩
theorem join_sh {n : Nat} : ∀ ts : List Str, (∀ t ∈ ts, Sh n t) → Sh (ts.length * (n + 2)) (Str.join ", " ts)
  | [], _ => ⟨Nat.zero_le _, by decide +kernel⟩
  | [x], h => (h x (by simp)).le (by rw [List.length_singleton]; omega)
  | x :: y :: r, h => by
    have ih := join_sh (y :: r) fun t ht => h t (List.mem_cons_of_mem _ ht)
    have := ((h x (by simp)).app (Sh.of ", " 2 (by decide))).app ih
    refine Sh.le this ?_
    rw [List.length_cons (a := x)]
    rw [Nat.succ_mul]
    omega
theorem tupleText_sh {n : Nat} (ts : List Str) (h : ∀ t ∈ ts, Sh n t) : Sh (ts.length * (n + 2) + 3) (tupleText ts) := by
  unfold tupleText
  have := ((Sh.of "(" 1 (by decide)).app (join_sh ts h)).app (y := ((if ts.length == 1 then ",)" else ")" : String) : Str)) (m := 2) (by split <;> exact Sh.of _ _ (by decide))
  exact Sh.le this (by omega)
theorem textFrom_sh {n : Nat} : ∀ (ts : List Str) (k m : Nat) (acc : Str), Sh m acc → (∀ t ∈ ts, Sh n t) → Sh (m + ts.length * (n + 2)) (textFrom k acc ts)
  | [], k, m, acc, a, _ => a.le (by omega)
  | t :: r, k, m, acc, a, h => by
    have e : Sh (m + 2 + n) (acc ++ (if k > 0 then ", " else "" : String) ++ t) := (a.app (y := ((if k > 0 then ", " else "" : String) : Str)) (m := 2) (by split <;> exact Sh.of _ _ (by decide))).app (h t (by simp))
    have := textFrom_sh r (k + 1) _ _ e fun t ht => h t (List.mem_cons_of_mem _ ht)
    refine Sh.le this ?_
    rw [List.length_cons, Nat.succ_mul]
    omega
theorem listText_sh {n : Nat} (ts : List Str) (h : ∀ t ∈ ts, Sh n t) : Sh (ts.length * (n + 2) + 2) (listText ts) := by
  unfold listText
  have := (textFrom_sh ts 0 1 "[" (Sh.of "[" 1 (by decide)) h).app (Sh.of "]" 1 (by decide))
  exact Sh.le this (by omega)
theorem int_sh {i : Int} (h1 : -2 ≤ i) (h2 : i ≤ 400) : Sh 5 ((toString i : String) : Str) := by
  have key : ∀ n : Nat, n < 403 → ((toString ((n : Int) - 2) : String) : Str).length ≤ 5 := by decide +kernel
  have := key (i + 2).toNat (by omega)
  rw [show (((i + 2).toNat : Nat) : Int) - 2 = i by omega] at this
  exact ⟨this, strOk_of _⟩
def smol : Nat → T → Bool
  | 0, _ => false
  | _ + 1, .non => true
  | _ + 1, .bl _ => true
  | _ + 1, .int i => decide (-2 ≤ i) && decide (i ≤ 400)
  | n + 1, .tup ts => decide (ts.length ≤ 10) && ts.all (smol n)
  | n + 1, .lst ts => decide (ts.length ≤ 10) && ts.all (smol n)
  | _ + 1, _ => false
def bnd : Nat → Nat
  | 0 => 5
  | n + 1 => 10 * (bnd n + 2) + 3
theorem bnd5 (n : Nat) : 5 ≤ bnd n := by
  cases n with
  | zero => exact Nat.le_refl _
  | succ n => unfold bnd; omega
theorem smol_all {n : Nat} (ih : ∀ t, smol n t = true → ∃ d, toD t = some d ∧ d.showable = true ∧ d.hasDict = false ∧ d.depth ≤ n ∧ Sh (bnd n) d.shown) : ∀ ts : List T, ts.all (smol n) = true → ∃ ds, toDs ts = some ds ∧ PyData.showableAll ds = true ∧ PyData.hasDictAll ds = false ∧ PyData.depthAll ds ≤ n ∧ (PyData.shownAll ds).length = ts.length ∧ ∀ x ∈ PyData.shownAll ds, Sh (bnd n) x
  | [], _ => ⟨[], rfl, rfl, rfl, Nat.zero_le _, rfl, fun x hx => by unfold PyData.shownAll at hx; cases hx⟩
  | t :: ts, h => by
    rw [List.all_cons, Bool.and_eq_true] at h
    obtain ⟨d, e1, e2, e3, e4, e5⟩ := ih t h.1
    obtain ⟨ds, f1, f2, f3, f4, f5, f6⟩ := smol_all ih ts h.2
    refine ⟨d :: ds, by unfold toDs; rw [e1, f1], by unfold PyData.showableAll; rw [e2, f2]; rfl, by unfold PyData.hasDictAll; rw [e3, f3]; rfl, by unfold PyData.depthAll; omega, by unfold PyData.shownAll; rw [List.length_cons, List.length_cons, f5], fun x hx => ?_⟩
    unfold PyData.shownAll at hx
    rcases List.mem_cons.mp hx with rfl | hx
    · exact e5
    · exact f6 x hx
theorem smol_ok : ∀ (n : Nat) (t : T), smol n t = true → ∃ d, toD t = some d ∧ d.showable = true ∧ d.hasDict = false ∧ d.depth ≤ n ∧ Sh (bnd n) d.shown
  | 0, _, h => by cases h
  | n + 1, .non, _ => ⟨.none, rfl, by unfold PyData.showable; rfl, by unfold PyData.hasDict; rfl, by unfold PyData.depth; omega, by unfold PyData.shown; exact (Sh.of "None" 5 (by decide)).le (bnd5 _)⟩
  | n + 1, .bl b, _ => ⟨.bool b, rfl, by unfold PyData.showable; rfl, by unfold PyData.hasDict; rfl, by unfold PyData.depth; omega, by unfold PyData.shown; cases b; exact (Sh.of "False" 5 (by decide)).le (bnd5 _); exact (Sh.of "True" 5 (by decide)).le (bnd5 _)⟩
  | n + 1, .int i, h => by
    unfold smol at h
    rw [Bool.and_eq_true, decide_eq_true_eq, decide_eq_true_eq] at h
    exact ⟨.int i, rfl, by unfold PyData.showable; exact decide_eq_true (log_small (Nat.lt_of_le_of_lt (show i.natAbs ≤ 400 by omega) (by decide))), by unfold PyData.hasDict; rfl, by unfold PyData.depth; omega, by unfold PyData.shown; exact (int_sh h.1 h.2).le (bnd5 _)⟩
  | n + 1, .tup ts, h => by
    unfold smol at h
    rw [Bool.and_eq_true, decide_eq_true_eq] at h
    obtain ⟨ds, f1, f2, f3, f4, f5, f6⟩ := smol_all (smol_ok n) ts h.2
    refine ⟨.tuple ds, by unfold toD; rw [f1]; rfl, by unfold PyData.showable; exact f2, by unfold PyData.hasDict; exact f3, by unfold PyData.depth; omega, ?_⟩
    unfold PyData.shown
    refine (tupleText_sh _ f6).le ?_
    show _ ≤ 10 * (bnd n + 2) + 3
    rw [f5]
    have := Nat.mul_le_mul_right (bnd n + 2) h.1
    omega
  | n + 1, .lst ts, h => by
    unfold smol at h
    rw [Bool.and_eq_true, decide_eq_true_eq] at h
    obtain ⟨ds, f1, f2, f3, f4, f5, f6⟩ := smol_all (smol_ok n) ts h.2
    refine ⟨.list ds, by unfold toD; rw [f1]; rfl, by unfold PyData.showable; exact f2, by unfold PyData.hasDict; exact f3, by unfold PyData.depth; omega, ?_⟩
    unfold PyData.shown
    refine (listText_sh _ f6).le ?_
    show _ ≤ 10 * (bnd n + 2) + 3
    rw [f5]
    have := Nat.mul_le_mul_right (bnd n + 2) h.1
    omega
  | n + 1, .str _, h => by cases h
  | n + 1, .ins _ _, h => by cases h
  | n + 1, .ref _, h => by cases h
  | n + 1, .ty _, h => by cases h
  | n + 1, .scr _, h => by cases h
  | n + 1, .exc _ _ _ _, h => by cases h
  | n + 1, .xob _ _, h => by cases h
theorem smol_repr {t : T} (h : Hq) (s : smol 4 t = true) : ∃ z, reprX h t = some z ∧ PyData.strOk z = true := by
  obtain ⟨d, e1, e2, e3, e4, e5⟩ := smol_ok 4 t s
  refine ⟨d.shown, ?_, e5.2⟩
  have l : d.shown.length ≤ 1000000 := Nat.le_trans e5.1 (by decide)
  have k : reprD t = some d.shown := by
    unfold reprD
    rw [e1]
    exact if_pos ⟨e2, e3, by omega, l⟩
  cases t with
  | ref b => cases s
  | _ => exact k
end TL

set_option maxHeartbeats 4000000
namespace TL
open PySem PySem.Spec PyProof.Rows L2
theorem bool_new_in {prog : Program} {w : World} (v : Value) : MeetsIn prog w (Builtin.«bool.__new__» ⟨[.type "bool", v], []⟩) (fun A R s => wpAny (model prog w) A.in1 (truthy v) (fun b s' => R (.ok (.ret (.bool b))) s') (fun e s' => R (.error e) s') s) :=
  .of_wp fun A R s h => by
    obtain ⟨hp, g, d, tk, os⟩ := s
    have f1 := F.conv_sub_bool
    have h' : wpAny (model prog w) A.in1 (truthy v) (fun b s' => ∃ v', (Fin.done (.ret (.bool b)) : PySem.Fin) = .done (.ret v') ∧ R (.ok (.ret v')) s') (fun e s' => R (.error e) s') ⟨hp, g, d, tk, os⟩ := wpAny_mono h (fun b s' q => ⟨_, rfl, q⟩) fun _ _ x => x
    repeat (any_goals (first | assumption | (refine wpAny_bind (wpAny_mono h (fun b s' q => ?_) fun _ _ x => x)) | wp_step))
    all_goals first | exact ⟨_, rfl, q⟩ | skip
section
variable {X : Cx} {K : PySem.W.Frag} {C : Addr}
theorem called_bool_in {prog : Program} {w : World} {A : Around} {E : Value → Shared → Prop} {s : Shared} {v : Value} {Q : Value → Shared → Prop} (h : wpAny (model prog w) A.in1.in1 (truthy v) (fun b s' => Q (.bool b) s') E s) : wpAny (model prog w) A (call (.type "bool") [v]) Q E s :=
  callType_newIn F.called_bool F.newNe_bool (F.typeCall_bool_1 v) (F.newCall_bool_1 v) (fun obj => F.args_object_init_2 obj v) F.entry_bool_new (bool_new_in v) (wpAny_mono h (fun b s' q => ⟨rfl, q⟩) fun _ _ x => x)
def rOwnBool (C : Addr) (sp : Sp) : List V → Hp → VK → Prop := fun xs H Q => ∃ a dx fs, xs = [.ref a] ∧ H a = some (.ins C dx fs) ∧ sp [.ref a] H (fun z H1 => ∃ r, z = .bl r ∧ Q (.bl r) H1) fun _ _ _ => False
theorem call_ownBool {P : Program} {w : World} {k : Nat} {f : Addr} {fd : FuncData} {ps : List Str} {sp : Sp} (hP : X.prog = P) (hw : X.w = w) (hm : Meth X.K C "__bool__" f) (F : FnOk X.prog X.w X.K X.mg X.base (L2.CX P w) k f fd ps sp) (hr : Room (k + 2) X.A) (hb : Binds X.K fd ps []) : CallR X (.type "bool") (rOwnBool C sp) := by
  intro pins s σ H xs us Q I r h
  obtain ⟨a, dx, fs, rfl, ea, q⟩ := h
  obtain ⟨u, rfl, e⟩ := vals1 r
  obtain rfl : u = .ref a := e
  obtain ⟨oa, Ja⟩ := instAt I ea
  obtain ⟨mm, fr⟩ := I.fr
  refine called_bool_in (PySem.W.truthy_K fr I.ok.mod.kin Ja hm.at_ hm.fn ?_)
  have hl : ([Value.ref a] ++ []).length = ps.length := F.len _ _ _ _ q
  have bd := hb s [.ref a] I.kIn hl
  rw [List.append_nil] at bd
  refine wpAny_call (codeAny_mono (F.run X.A.in1.in1 X.stack s H ⟨[.ref a], []⟩ [.ref a] [.ref a] _ _ hr.in1.in1 I.env0.in1.in1 bd (.cons rfl .nil) q) fun o s' z => ?_)
  rcases o with e | (u | _ | _ | _)
  · exact noneAt hP hw σ pins H s e s' I z
  · exact False.elim z
  · exact False.elim z
  · exact False.elim z
  · obtain ⟨v, H1, I1, rv, r, e, q1⟩ := I.after z
    subst e
    obtain rfl : _ = Value.bool r := rv
    exact (show EP X pins σ Q (.bool r) s' from ⟨.bl r, H1, I1, rfl, q1⟩)
def oOwnBool (C : Addr) (c : Con) : RLT := fun xs h Q => match xs with
  | [x] => match insOf h x with
    | some (C1, _) => C1 = C ∧ c [x] h (fun v h1 => match v with
      | .bl b => Q (.bl b) h1
      | _ => False) fun _ _ => False
    | none => False
  | _ => False
theorem c_ownBool {c : Con} : CP K (rOwnBool C (liftSp K 1 c)) (oOwnBool C c) := fun S H h vs xs Q Q' m r q pk => by
  unfold oOwnBool at q
  split at q
  · rename_i x
    cases r with
    | cons r1 rn =>
      cases rn
      split at q
      · rename_i C1 g1 e1
        obtain ⟨rfl, q⟩ := q
        obtain ⟨a, dx, fs, rfl, ea, _⟩ := insOf_ok m r1 e1
        refine ⟨a, dx, fs, rfl, ea, S, h, [x], _, _, m, .cons r1 .nil, rfl, q, fun S1 H1 h1 z u f1 m1 r3 q3 => ?_, fun _ _ _ _ _ _ _ _ _ z => z.elim⟩
        dsimp only at q3
        split at q3
        · cases r3; exact ⟨_, rfl, pk S1 H1 h1 _ _ f1 m1 (.bl _) q3⟩
        · exact q3.elim
      · exact q.elim
  · exact q.elim
def oIsiD (K : PySem.W.Frag) : RLT := fun xs h Q => match xs with
  | [x, .ref D] => (∃ k, tyN h x = some k ∧ PySem.W.kitOne K (.type k) (.ref D) = some false ∧ Q (.bl false) h) ∨ (∃ C gs b, insOf h x = some (C, gs) ∧ TyC K C ∧ PySem.W.kitOne K (.ref C) (.ref D) = some b ∧ Q (.bl b) h)
  | _ => False
theorem c_isiD {K : PySem.W.Frag} : CP K (rIsi K) (oIsiD K) := fun S H h vs xs Q Q' m r q pk => by
  unfold oIsiD at q
  split at q
  · cases r with
    | cons r1 rn => cases rn with
      | cons r2 rn =>
        cases rn
        cases r2
        rcases q with ⟨k, e1, e2, q⟩ | ⟨C, gs, b, e1, ty, e2, q⟩
        · exact ⟨_, _, _, _, _, rfl, .own _, ty_tyN m r1 e1, e2, pk S H h _ _ Fut.refl m (.bl _) q⟩
        · obtain ⟨a, dx, fs, rfl, ea, _⟩ := insOf_ok m r1 e1
          exact ⟨_, _, _, _, _, rfl, .own _, ty H a dx fs ea, e2, pk S H h _ _ Fut.refl m (.bl _) q⟩
  · exact q.elim
end
end TL

set_option maxHeartbeats 1000000
namespace TL
open PySem PySem.Spec PySem.Calls PyProof.Rows L2 GenW
section
variable {X : Cx} {xe : Ix → Value → Shared → Prop} {e : Expr} {yp pos : Pos}
theorem GIy.turned {T : Tk} {ip : List (Addr × Obj)} {zs : List V} {σ : L2.St} {H : Hp} {s : Shared} {h' : Heap} {tk : Nat} {it : Addr} (gk : TkOk X T) (hI : GIy X xe T ip zs σ H s) (hk : ∀ b o, b ≠ it → s.heap.get? b = some o → h'.get? b = some o)
    (hpi : ∀ p ∈ X.pn ++ ip, p.1 ≠ it) (hw : it ∉ T.ws) (hn : T.n0 ≤ it) (hL : it ≠ X.env.locals) (hcell : ∀ x c, X.env.cells.lookup x = some c → c ≠ it) (hH : H it = none) : GIy X xe T ip zs σ H { s with heap := h', toks := tk } := by
  obtain ⟨cp, u, hcp, I, hV, hC, hu, hn0⟩ := hI
  have wpin : ∀ p ∈ cp, p.1 ∈ T.ws := fun p hp => by rw [← hcp]; exact List.mem_map.mpr ⟨p, hp, rfl⟩
  refine ⟨cp, u, hcp, I.turned (it := it) hk hH hL (.inr (by show u.heap.objs.size ≤ it; omega)) hcell fun p hp => ?_, hV, ?_, hu, hn0⟩
  · rcases List.mem_append.mp hp with hp | hp
    · rcases List.mem_append.mp hp with hp | hp
      · exact hpi p (List.mem_append_left _ hp)
      · intro z
        exact hw (z ▸ wpin p hp)
    · rcases List.mem_append.mp hp with hp | hp
      · intro z
        exact hw (z ▸ wpin p hp)
      · exact hpi p (List.mem_append_right _ hp)
  · refine gk.st zs _ _ (fun b hb => ?_) hC
    rw [← hcp] at hb
    obtain ⟨p, hp, eb⟩ := List.mem_map.mp hb
    subst eb
    have q := (I.pin p (List.mem_append_right _ (List.mem_append_left _ hp))).1
    rw [q]
    exact (hk p.1 _ (fun z => hw (z ▸ wpin p hp)) q).symm
theorem seg_yfY {T : Tk} {ip : List (Addr × Obj)} {A : Around} {R : GenEnd} {fs : List Frame} {it : Addr} {xs ys : List V} {St : Nat → Heap → Prop} {σ : L2.St} {H : Hp} (gk : TkOk X T) (hip : ∀ p ∈ ip, p.1 ≠ T.L ∧ p.1 ∉ T.ws) (hpi : ∀ p ∈ X.pn ++ ip, p.1 ≠ it)
    (hw : it ∉ T.ws) (hTL : it ≠ T.L) (hn0 : T.n0 ≤ it) (hL : it ≠ X.env.locals) (hcell : ∀ x c, X.env.cells.lookup x = some c → c ≠ it) (hH : H it = none) (q : QIt X H it xs St)
    (ho : (A.over (.builtin "proto.yield_from" ⟨[.ref it, .bool false, .none], []⟩) fs).handled = none) (hsp : splitAtGen fs = none) (hgd : fs.any Frame.guarded = false) (hle : ys.length + xs.length ≤ sizeLine)
    (hend : ∀ (n : Nat) (s₀ s : Shared), n + (ys ++ xs).length = sizeLine → GIy X xe T ip (ys ++ xs) σ H s → Seg (model X.prog X.w) A R (YY X xe T) n s₀ (.builtin "proto.yield_from" ⟨[.ref it, .bool false, .none], []⟩) (.pure (.done (.ret .none))) fs s) :
    ∀ (r j n : Nat) (s₀ s : Shared), j + r = xs.length → n + (ys.length + j) = sizeLine → GIy X xe T ip (ys ++ xs.take j) σ H s → St j s.heap →
      Seg (model X.prog X.w) A R (YY X xe T) n s₀ (.builtin "proto.yield_from" ⟨[.ref it, .bool false, .none], []⟩) ((model X.prog X.w).den (.builtin "proto.yield_from" ⟨[.ref it, .bool false, .none], []⟩)) fs s := by
  obtain ⟨Ty, hT, hcl, hng⟩ := q.ty
  intro r
  induction r with
  | zero =>
    intro j n s₀ s hj hn hI hst
    have hj' : j = xs.length := by omega
    subst hj'
    rw [List.take_length] at hI
    rw [den_yf]
    unfold Builtin.«proto.yield_from»
    try dsimp only
    refine seg_bind (wpAny_pure ?_)
    try dsimp only
    refine seg_bind (wpAny_attempt (wpAny_holding ?_))
    rw [if_neg Bool.false_ne_true, if_pos (show (Value.none == Value.none) = true from rfl)]
    refine wpAny_bind (wpAny_rule (wpAny_bind ?_))
    refine q.done _ s _ _ ho hst fun e h' tk hS hk => ?_
    obtain ⟨a, o, vs, rfl, hoa, hcls, hdat, h5⟩ := hS
    try dsimp only
    refine seg_bind (wpAny_endsTurn hoa hcls ?_)
    try dsimp only
    rw [if_pos rfl]
    first
      | refine seg_bind (wpAny_rule ?_)
      | (rw [if_neg Bool.false_ne_true]; refine seg_bind (wpAny_rule ?_))
      | (rw [if_neg Bool.false_ne_true]; refine seg_bind (wpAny_pure ?_); refine seg_bind (wpAny_rule ?_))
    refine seg_bind (wpAny_field hoa hdat h5 ?_)
    exact hend n s₀ _ (by rw [List.length_append]; exact hn) (hI.turned gk hk hpi hw hn0 hL hcell hH)
  | succ r ih =>
    intro j n s₀ s hj hn hI hst
    have hjl : j < xs.length := by omega
    obtain ⟨x, hx⟩ : ∃ x, xs[j]? = some x := ⟨xs[j], List.getElem?_eq_getElem hjl⟩
    obtain ⟨n, rfl⟩ : ∃ m, n = m + 1 := ⟨n - 1, by omega⟩
    have htl : (xs.take j).length = j := by rw [List.length_take]; omega
    rw [den_yf]
    unfold Builtin.«proto.yield_from»
    try dsimp only
    refine seg_bind (wpAny_pure ?_)
    try dsimp only
    refine seg_bind (wpAny_attempt (wpAny_holding ?_))
    rw [if_neg Bool.false_ne_true, if_pos (show (Value.none == Value.none) = true from rfl)]
    refine wpAny_bind (wpAny_rule (wpAny_bind ?_))
    refine q.item _ j x s _ _ ho hx hst fun v h' tk rv hst' hk => ?_
    have hI' := hI.turned (tk := tk) gk hk hpi hw hn0 hL hcell hH
    obtain ⟨oi, hoi, hoc⟩ := hT (j + 1) h' hst'
    refine wpAny_pure ?_
    try dsimp only
    refine seg_bind (wpAny_typeOf (T := Ty) ⟨oi, hoi, hoc⟩ ?_)
    try dsimp only
    first
      | (refine seg_bind (wpAny_of_eq hcl ?_); refine seg_bind (wpAny_pure ?_))
      | refine seg_bind (wpAny_bind (wpAny_of_eq hcl (wpAny_pure ?_)))
      | refine seg_bind (wpAny_of_eq hcl ?_)
    try dsimp only
    refine seg_bind (wpAny_sleptOver hoi hoc hng ?_)
    refine seg_yield hsp rfl hgd ?_
    obtain ⟨cp, u, hcp, I', hV', hC', hu', hn'⟩ := hI'
    refine ⟨ys ++ xs.take j, x, ip, cp, u, σ, H, ?_, rv, hcp, I', hV', hC', hu', hn', fun s'' z zC => ?_⟩
    · rw [List.length_append, htl]; exact hn
    obtain ⟨cp', u', h1, h2, h3, h4, h5⟩ := woken gk hip hcp I' hu' hn' z
    have nL : H T.L = none := by
      obtain ⟨o, hoL⟩ := hu'
      exact I'.base.free T.L o hoL gk.l0 (fun hb => by rw [show (reX X xe (u, cp)).ex = [] from gk.ex] at hb; cases hb)
    have nW : ∀ b ∈ T.ws, H b = none := fun b hb => by
      rw [← hcp] at hb
      obtain ⟨p, hp, eb⟩ := List.mem_map.mp hb
      subst eb
      exact (I'.pin p (List.mem_append_right _ (List.mem_append_left _ hp))).2.1
    have hst2 : St (j + 1) s''.heap := q.frame (j + 1) h' s''.heap hst' fun b o hb e => by
      refine z.keep b o (fun hm => ?_) (fun hm => ?_) e
      · rcases hb with y | y
        · exact hTL (y.symm.trans hm)
        · exact y (by rw [hm]; exact nL)
      · rcases hb with y | y
        · exact hw (y ▸ hm)
        · exact y (nW b hm)
    obtain ⟨oj, hoj, hojc⟩ := hT (j + 1) s''.heap hst2
    have etk : ys ++ xs.take j ++ [x] = ys ++ xs.take (j + 1) := by
      rw [List.append_assoc, List.take_add_one, hx]; rfl
    rw [etk] at zC
    show Seg _ _ _ _ n s'' _ (Builtin.Generator.sleptOver (.ref it) false >>= fun _ => _) fs s''
    refine seg_bind (wpAny_sleptOver hoj hojc hng ?_)
    try dsimp only
    refine seg_bind (wpAny_pure ?_)
    exact seg_again (plainId_quiet plain_yf _) (ih (j + 1) n s'' s'' (by omega) (by omega) ⟨cp', u', h1, h2, h3, zC, h4, h5⟩ hst2)
theorem gy_yieldFrom {t : TYf} (he : ∀ u, YfE (reX X xe u) e t) (hc : X.A.handled = none) (hi : interactive X.env = false := by rfl) : GSy X xe (.Expr (.YieldFrom e yp) pos) (tGFrom t) := by
  refine ⟨fun A T ip R n ys s₀ c fs K J gd lv s σ H D g hn k hI ht => ?_⟩
  rw [exec_Expr X.env _ pos hi rfl]
  show Seg _ _ _ _ n s₀ c (.at pos fun _ => ((eval e X.env >>= fun v => (standAt yp >>= fun _ => yieldFrom X.env v)) >>= fun x => dropValue (.YieldFrom e yp) pos x).wrap K J gd lv) fs s
  refine seg_at ?_
  obtain ⟨cp, u, hcp, I, hV, hC, hu, hn0⟩ := hI
  refine segw_bind2 ?_
  rw [g.over]
  refine wpAny_mono ((he (u, cp)).run _ s σ H _ I ht) (fun v s1 hv => ?_) fun x s' hx => k.exc n s₀ x s' (u, cp) (vq_of hcp I hV hC) hx
  obtain ⟨Ty, hT, hne, hit⟩ := hv
  have hne' : ¬ ((Value.type Ty == Value.type "coroutine") = true) := by rw [hne]; exact Bool.false_ne_true
  refine seg_at ?_
  show Seg _ _ _ _ n s₀ c ((yieldFrom X.env v).wrap (fun b => (dropValue (.YieldFrom e yp) pos b).wrap K J gd lv) J gd lv) fs s1
  unfold yieldFrom
  refine seg_bind_wrap (wpAny_typeOf hT ?_)
  rw [if_neg hne']
  refine seg_bind_wrap (wpAny_holding ?_)
  rw [g.over]
  refine wpAny_mono hit (fun uv s2 huv => ?_) fun x s' hx => k.exc n s₀ x s' (u, cp) (vq_of hcp I hV hC) hx
  obtain ⟨it, H', xs, St, rfl, I2, q1, q2, q3, q4, q5, q6, q7, hle, hq⟩ := huv
  refine seg_call fun p => ?_
  have hge : T.n0 ≤ it := by
    rcases q1 with q1 | q1
    · rw [show (reX X xe (u, cp)).ex = [] from g.ok.ex] at q1; cases q1
    · have q1 : u.heap.objs.size ≤ it := q1
      omega
  have hTL : it ≠ T.L := fun z => by
    obtain ⟨o, ho⟩ := hu
    have h1 := Heap.lt_size ho
    rw [← z, hn0] at h1
    exact absurd (Nat.lt_of_lt_of_le h1 hge) (Nat.lt_irrefl _)
  have hws : it ∉ T.ws := fun z => by
    rw [← hcp] at z
    obtain ⟨p, hp, eb⟩ := List.mem_map.mp z
    exact q5 p (List.mem_append_right _ (List.mem_append_left _ hp)) eb
  refine seg_yfY (xs := xs) (ys := ys) g.ok g.ip (fun p hp => (List.mem_append.mp hp).elim (fun z => q5 p (List.mem_append_left _ (List.mem_append_left _ z))) fun z => q5 p (List.mem_append_right _ (List.mem_append_right _ z))) hws hTL hge q2 q3 q4 (St := St) ⟨q7.ty, q7.frame, q7.item, q7.done⟩ ?_ ?_ ?_ hle
    (fun n' s₀' s' hn' hG => ?_) xs.length 0 n s₀ s2 (Nat.zero_add _) hn ⟨cp, u, hcp, I2, hV, by rw [List.take_zero, List.append_nil]; exact C_stay g.ok hcp I I2 hC, hu, hn0⟩ q6
  · show (A.over c fs).handled = none
    rw [g.over]; exact hc
  · show (splitAtGen fs).map _ = none
    rw [g.split]; rfl
  · show (gd false || fs.any Frame.guarded) = false
    rw [g.gd, g.guard]; rfl
  · exact seg_leaf (.ok (.ret .none)) (k.ok n' (ys ++ xs) s₀' s' .next hn' ⟨σ, H', hG, hq⟩)
end
section
variable {X : Cx} {xe : Ix → Value → Shared → Prop} {W : WX}
theorem jz_from {e : Expr} {m : EM} {yp pos : Pos} (he : ∀ u, JE (reX X xe u) W e m) (hc : X.A.handled = none) (hi : interactive X.env = false := by rfl) : JZ1 X xe W (.Expr (.YieldFrom e yp) pos) (yFrom m) := GSy.wk (gy_yieldFrom (t := tYfLst (liftE X.K W m)) (fun u => yf_lst (he u)) hc hi) fun D ys σ H ⟨S, h, s, D', ts, mm, rs, rl, lk, q⟩ =>
  ⟨S, h, s, _, D'.ex, mm, rs, lk.ex, q, fun S1 H1 h1 v u f1 m1 r1 q1 => by
    split at q1
    · rename_i p
      split at q1
      · rename_i us e1
        obtain ⟨hl, q1⟩ := q1
        cases r1
        obtain ⟨u', e2, vs, e3, r2⟩ := m1.ob p _ e1
        subst e3
        exact ⟨p, vs, rfl, e2, by rw [rl.length, r2.length]; exact lim_le hl, lk.nx S1 H1 h1 σ s _ _ f1 m1 (rs.fut f1) (RepL.app (rl.fut f1) r2) q1⟩
      · exact q1.elim
    · exact q1.elim⟩
end
end TL

set_option maxHeartbeats 1000000
namespace TL
open PySem PySem.Spec PySem.Calls PyProof.Rows L2 GenW
theorem noteFrame_frame {e : Value} {env env' : Env} (h : env'.frame = env.frame) : noteFrame e env' = noteFrame e env := by
  unfold noteFrame PySem.frameOf
  simp only [h]
section
variable {X : Cx} {W : WX} {pins : List (Addr × Obj)} {σ : L2.St} {H1 : Hp} {sc s1 : Shared} {e : Value} {C : Addr} {E : XK}
theorem on_ground {a : Addr} {B : Heap} {H' : Hp} {Z : Obj → Prop} (I : Inv X pins σ H1 sc) (fl : HandSPX.FlyingZ B X.stack a Z s1.heap) (hok : HOk X.prog X.w H' B) (ub : UB (frs X.stack) H1 H' sc.heap B s1.heap) (os : s1.os = sc.os) (ag : AllBare s1.gens) :
    ∃ sI : Shared, Inv X pins σ H' sI ∧ (∀ b o, sI.heap.get? b = some o → b ∉ frs X.stack → B.get? b = some o) ∧ (∀ b o, sI.heap.get? b = some o → s1.heap.get? b = some o) ∧ s1.os = sI.os := by
  obtain ⟨G, g1, g2⟩ := restrict s1.heap fun b => (B.get? b).isSome || decide (b ∈ frs X.stack)
  have st : B.StaysIn s1.heap := fl.1
  have gB : ∀ b o, B.get? b = some o → G.get? b = some o := fun b o e => by
    rw [g1 b (by simp [e])]
    exact st b o e
  have gF : ∀ b, b ∈ frs X.stack → G.get? b = s1.heap.get? b := fun b hb => g1 b (by simp [hb])
  have og : ∀ b o, G.get? b = some o → s1.heap.get? b = some o ∧ ((B.get? b).isSome = true ∨ b ∈ frs X.stack) := fun b o e => by
    cases q : ((B.get? b).isSome || decide (b ∈ frs X.stack)) with
    | false => rw [g2 b q] at e; cases e
    | true =>
      rw [g1 b q] at e
      exact ⟨e, by simpa [Bool.or_eq_true] using q⟩
  refine ⟨{ sc with heap := G, gens := s1.gens, drawn := s1.drawn, toks := s1.toks }, ?_, fun b o e hb => ?_, fun b o e => (og b o e).1, os⟩
  · refine I.call (ch := []) ⟨fun b o e n hb _ => gB b o (ub.keep b o e n hb), fun b o e n hb _ => ?_, fun b o e n _ => ub.free b o e n, fun b o e _ => ?_, ub.tups, ub.frzs, ub.tbls⟩ (hok.kept gB) ag (fun _ z => nomatch z)
    · obtain ⟨sl, q⟩ := ub.slot b o e hb
      exact ⟨sl, by rw [gF b hb]; exact q⟩
    · by_cases hb : b ∈ frs X.stack
      · obtain ⟨sl, q⟩ := ub.slot b o e hb
        exact ⟨_, by rw [gF b hb]; exact q⟩
      · obtain ⟨o', q⟩ := ub.there b o e hb
        exact ⟨o', gB b o' q⟩
  · obtain ⟨e', h⟩ := og b o e
    rcases h with h | h
    · obtain ⟨o', q⟩ := Option.isSome_iff_exists.mp h
      have z := st b o' q
      rw [e'] at z; cases z
      exact q
    · exact absurd h hb
theorem frames_but {base h h' : Heap} : ∀ {l : List Env}, C ∉ frs l → (∀ b o, b ≠ C → h.get? b = some o → h'.get? b = some o) → h.FunFrames base l → h'.FunFrames base l
  | [], _, _, _ => trivial
  | env :: l, hC, k, ⟨hk, ⟨L, o, hf, hb, ho, hd⟩, hr⟩ =>
    ⟨hk, ⟨L, o, hf, hb, k L o (fun z => hC (List.mem_filterMap.mpr ⟨env, List.mem_cons_self, by rw [← z]; exact hf⟩)) ho, hd⟩, frames_but (fun hm => hC (by
      obtain ⟨e, he, q⟩ := List.mem_filterMap.mp hm
      exact List.mem_filterMap.mpr ⟨e, List.mem_cons_of_mem _ he, q⟩)) k hr⟩
theorem comp_err {what : String} {cenv : Env} {Q : Value → Shared → Prop} {m : Str → Option Value} (tk : Takes X W) (hs : X.stack = X.env :: X.outer) (hf : X.env.frame = some X.env.locals) (hfr : cenv.frame = X.env.frame) (I : Inv X pins σ H1 sc) (hC : sc.heap.objs.size ≤ C) (hn : s1.heap.Ns C m)
    (hE : ∀ cls d H, E cls d H → W cls d σ H) (cx : L2.CX X.prog X.w X.stack H1 sc (fun cls d H' => E cls d H' ∧ H' C = none) e s1) :
    notedBy (model X.prog X.w) X.A cenv (fun x s' => ∃ m, s'.heap.Ns C m ∧ ∀ h', Heap.SameBut C s'.heap h' → wpAny (model X.prog X.w) X.A (passOn what x cenv : Sem Value) Q X.xe { s' with heap := h' }) e s1 := by
  obtain ⟨a, B, H', cls, d, rfl, fl, hok, ub, na, os, ag, hE', nC⟩ := cx
  have Bg : ∀ b o, (PySem.W.hideAll B [C]).get? b = some o → B.get? b = some o := fun b o e => PySem.W.of_hideAll _ e
  have Bs : ∀ b o, b ≠ C → B.get? b = some o → (PySem.W.hideAll B [C]).get? b = some o := fun b o hb e => PySem.W.hideAll_get _ e (by simpa using hb)
  have Bn : ∀ b, B.get? b = none → (PySem.W.hideAll B [C]).get? b = none := fun b e => by
    cases q : (PySem.W.hideAll B [C]).get? b with
    | none => rfl
    | some o => rw [Bg b o q] at e; cases e
  have BC : (PySem.W.hideAll B [C]).get? C = none := PySem.W.hideAll_none _ (by simp)
  have old : ∀ b o, sc.heap.get? b = some o → b ≠ C := fun b o e => Nat.ne_of_lt (Nat.lt_of_lt_of_le (Heap.lt_size e) hC)
  generalize PySem.W.hideAll B [C] = B' at Bg Bs Bn BC
  obtain ⟨f1, f2, f3, f4⟩ := fl
  have fl' : HandSPX.FlyingZ B' X.stack a (Zc cls d) s1.heap := by
    obtain ⟨oe, vs, T, oT, ts, he, hz, hd, h1, hnT, r⟩ := f4
    exact ⟨fun b o e => f1 b o (Bg b o e), Bn a f2, funFrames_none f3 fun L hL => Bn L (by
      obtain ⟨q, _⟩ := f3.mem hL
      exact q), oe, vs, T, oT, ts, he, hz, hd, h1, Bn T hnT, r⟩
  have hok' : HOk X.prog X.w H' B' := fun b u q => (hok b u q).stay (fun c v hc y => Bs c v (fun z => by
      rcases hc with hc | hc
      · rw [← hc, z, nC] at q; cases q
      · rw [z, nC] at hc; cases hc) y) (fun _ y => y) fun _ _ y => y
  have ub' : UB (frs X.stack) H1 H' sc.heap B' s1.heap := ⟨fun b o e n hb => Bs b o (old b o e) (ub.keep b o e n hb), ub.slot, ub.free, fun b o e hb => by
      obtain ⟨o', q⟩ := ub.there b o e hb
      exact ⟨o', Bs b o' (old b o e) q⟩, ub.tups, ub.frzs, ub.tbls⟩
  obtain ⟨sI, J, nb, og, oI⟩ := on_ground I fl' hok' ub' os ag
  have nf : C ∉ frs X.stack := fun hm => by
    obtain ⟨q, _⟩ := I.stack.mem hm
    have : ∃ o, sc.heap.get? C = some o := by
      obtain ⟨_, o, ho, _⟩ := I.stack.mem hm
      exact ⟨o, ho⟩
    obtain ⟨o, ho⟩ := this
    exact old C o ho rfl
  have nI : ∀ b o, sI.heap.get? b = some o → b ≠ C := fun b o e z => by
    have := nb b o e (by rw [z]; exact nf)
    rw [z, BC] at this
    cases this
  have hfA : X.A.frames = some (X.env :: X.outer) := by rw [I.ok.frames, hs]
  unfold notedBy
  rw [noteFrame_frame hfr]
  rw [hs] at fl'
  refine HandSPX.looks_onZ Zc.steady hfA hf fl' fun h1 hh up => ?_
  obtain ⟨o, es, ep, ho, hd, r⟩ := id hn
  have hn1 : h1.Ns C m := by
    obtain ⟨sl, q⟩ := up C o ho (fun vs z => by rw [hd] at z; cases z)
    exact ⟨_, es, ep, q, hd, r⟩
  refine ⟨m, hn1, fun h2 sb => ?_⟩
  obtain ⟨k1, k2, k3, oe, vs, T, oT, ts, he, hz, hdd, h1v, hnT, hTe, hT, hdT, h3⟩ := hh
  have hn1' := hn1
  obtain ⟨oc, es', ep', hoc, hdc, _⟩ := hn1'
  have aC : a ≠ C := fun z => by
    rw [z, hoc] at he; cases he
    rw [hdc] at hdd; cases hdd
  have TC : T ≠ C := fun z => by
    rw [z, hoc] at hT; cases hT
    rw [hdc] at hdT; cases hdT
  have st2 : ∀ b o, b ≠ C → h1.get? b = some o → h2.get? b = some o := fun b o hb e => (sb.2 b hb).trans e
  have hh2 : HandSPX.HeldZ B' (X.env :: X.outer) a (Zc cls d) X.env.locals h2 := by
    refine ⟨fun b o e => st2 b o (fun z => by rw [z, BC] at e; cases e) (k1 b o e), k2, ?_, oe, vs, T, oT, ts, st2 a oe aC he, hz, hdd, h1v, hnT, hTe, st2 T oT TC hT, hdT, h3⟩
    exact frames_but (C := C) (fun hm => nf (by rw [hs]; exact hm)) (fun b o hb e => st2 b o hb e) k3
  unfold PySem.passOn
  refine wpAny_bind (wpAny_field (st2 a oe aC he) hdd h1v ?_)
  rw [if_neg (show ¬ ((Value.ref T == Value.none) = true) from by simp)]
  refine wpAny_bind ?_
  rw [hfr, hf]
  refine HandSPX.setFlight_onZ hh2 fun h3 hh3 up3 => ?_
  refine wpAny_throw (tk _ _ ⟨a, B', sI, pins, σ, H', cls, d, rfl, J, nb, fun b o e hnf => ?_, .inr (.inr (by rw [hs]; exact hh3)), na, oI, ag, hE _ _ _ hE'⟩)
  obtain ⟨sl, q1⟩ := up b o (og b o e) hnf
  have q2 := st2 b _ (nI b o e) q1
  obtain ⟨sl3, q3⟩ := up3 b _ q2 hnf
  exact ⟨sl3, q3⟩
end
section
variable {X : Cx} {k : Nat}
def tLcG (tg : TGenY) (E : L2.St → XK) : TE := fun σ H Q => tg σ H (fun ys H' => ∀ p, H' p = none → Q (.ref p) (upd H' p (.lst ys))) (E σ)
theorem pe_lcG {W : WX} {nm : Str} {iter : Expr} {p0 p1 pos : Pos} {scope : Scope} {tg : TGenY} {E : L2.St → XK} (tk : Takes X W) (hs0 : X.stack = X.env :: X.outer) (hf : X.env.frame = some X.env.locals) (hc : X.calm = true)
    (hcell : ∀ x ∈ scope.names, x.2 ≠ .cell) (hfree : ∀ x ∈ scope.names, x.2 ≠ .free) (hkind : scope.kind = .function) (hnames : ∀ x ∈ scope.names, x.2 = .local → scope.names.lookup x.1 = some .local) (hx : scope.names.lookup nm = some .local)
    (hG : PGenY X k iter tg) (hr : Room (k + 1) X.A) (hns : ∀ σ, NoStop X.K (E σ)) (hE : ∀ σ cls d H, E σ cls d H → W cls d σ H) (hdb : (nm == ("__debug__" : Str)) = false := by decide) (hs : ∀ x, foldedSetIterable iter X.env x = pure x := by intro _; rfl) :
    PE X (.ListComp (.Name nm p1) [⟨.Name nm p0, iter, [], 0⟩] scope pos) (tLcG tg E) := by
  refine ⟨fun pins s σ H Q I h => ?_⟩
  refine wpAny_ListComp hfree hkind hnames (thn (hG.run pins s σ H _ _ I h) fun v s1 ⟨H1, sc, I1, hM⟩ => ?_) hs
  obtain ⟨a, g, c, rfl, ha1, ha2, hg, hgs, hos, hb, hlim, hkp, wake⟩ := hM
  refine wpAny_pyIter_gen hg ?_
  refine wpAny_newObj_type (wpAny_newFunctionEnv hcell (by intro y hy; simp at hy) (fun h₁ hns₁ hsb₁ => ?_) hkind)
  dsimp only at hns₁ hsb₁ ⊢
  generalize hH2 : s1.heap.push { cls := .type "list", dict := none, data := .seq ([] : List Value).toArray } = G2 at hns₁ hsb₁ ⊢
  have hCn : G2.objs.size = s1.heap.objs.size + 1 := by rw [← hH2, Heap.size_push]
  have old1 : ∀ b o, s1.heap.get? b = some o → b < s1.heap.objs.size := fun b o e => Heap.lt_size e
  have hszD : sc.heap.objs.size ≤ s1.heap.objs.size := Nat.le_trans ha1 (Nat.le_of_lt ha2)
  generalize hCe : G2.objs.size = C at hns₁ hsb₁ hCn ⊢
  have hD0 : G2.get? s1.heap.objs.size = some (lstObj #[] 0) := by rw [← hH2]; exact Heap.get?_push_size _ rfl
  have kG : ∀ b o, s1.heap.get? b = some o → G2.get? b = some o := fun b o e => by rw [← hH2]; exact Heap.get?_push_of_some _ e
  have fr1 := I1.ok.frames
  have seg1 := fun T s2 => wake X.A.in1 T s2
  generalize hDe : s1.heap.objs.size = D at hCn old1 hszD hD0 ⊢
  have eCD : @Eq Nat C (D + 1) := hCn
  have hDC : D ≠ C := fun z => by
    have z' : @Eq Nat D C := z
    omega
  have kpp : ∀ b o, s1.heap.get? b = some o → h₁.get? b = some o := fun b o e => hsb₁.extBut b o (fun z => by
    have h1 := old1 b o e
    have z' : @Eq Nat b C := z
    rw [z', eCD] at h1
    exact absurd h1 (Nat.not_lt.mpr (Nat.le_succ D))) (Heap.get?_push_of_some _ (kG b o e))
  have hD1 : h₁.get? D = some (lstObj #[] 0) := hsb₁.extBut _ _ hDC (Heap.get?_push_of_some _ hD0)
  have hd : X.A.handled = none := I.ok.hd hc
  have hszC : sc.heap.objs.size ≤ C := by
    rw [hCn]
    exact Nat.le_succ_of_le hszD
  have ndl : ∀ b o, sc.heap.get? b = some o → b ≠ D ∧ b ≠ C := fun b o e => by
    have h1 := Heap.lt_size e
    exact ⟨Nat.ne_of_lt (Nat.lt_of_lt_of_le h1 hszD), Nat.ne_of_lt (Nat.lt_of_lt_of_le h1 hszC)⟩
  obtain ⟨m0, ⟨o0, es0, ep0, ho0, r0⟩, _⟩ := id I1.loc
  have LD : X.env.locals ≠ D ∧ X.env.locals ≠ C := ndl _ _ ho0
  generalize hce : compEnv scope C X.env = ce
  have ceL : ce.locals = C := by rw [← hce]; rfl
  have ceK : ce.scope.kind = .function := by rw [← hce]; exact hkind
  have ceN : ce.kindOf nm = some .local := by rw [← hce]; exact hx
  have ceF : ce.frame = X.env.frame := by rw [← hce]; rfl
  generalize eT : (⟨X.env.locals, [D, C], sc.heap.objs.size, fun u => Inv X pins σ H1 u ∧ u.heap.objs.size = sc.heap.objs.size, fun ys hh => (∃ acc cn, hh.get? D = some (lstObj acc cn) ∧ Vals ys acc.toList) ∧ ∃ m, hh.Ns C m⟩ : Tk) = T at *
  have eL : T.L = X.env.locals := by rw [← eT]
  have eW : T.ws = [D, C] := by rw [← eT]
  have eV : ∀ u, T.Vp u ↔ (Inv X pins σ H1 u ∧ u.heap.objs.size = sc.heap.objs.size) := fun u => by rw [← eT]
  have eC : ∀ ys hh, T.C ys hh ↔ ((∃ acc cn, hh.get? D = some (lstObj acc cn) ∧ Vals ys acc.toList) ∧ ∃ m, hh.Ns C m) := fun ys hh => by rw [← eT]
  have Cst : ∀ ys (hh hh' : Heap), (∀ b ∈ T.ws, hh.get? b = hh'.get? b) → T.C ys hh → T.C ys hh' := fun ys hh hh' k2 c2 => by
    obtain ⟨⟨acc, cn, q1, q2⟩, m, o, es, ep, q3, q4⟩ := (eC ys hh).mp c2
    refine (eC ys hh').mpr ⟨⟨acc, cn, (k2 D (by rw [eW]; simp)).symm.trans q1, q2⟩, m, o, es, ep, (k2 C (by rw [eW]; simp)).symm.trans q3, q4⟩
  generalize hS3 : ({ s1 with heap := h₁, toks := s1.toks + ([] : List (Str × Value)).length } : Shared) = S3
  have e3h : S3.heap = h₁ := by rw [← hS3]
  have e3g : S3.gens = s1.gens := by rw [← hS3]
  have e3o : S3.os = s1.os := by rw [← hS3]
  have hT : TkAt X.base H1 sc s1 (S3.setGen g .running) T := by
    refine ⟨?_, ?_, ?_, by rw [← eT], (eV sc).mpr ⟨I1, rfl⟩, (eC _ _).mpr ?_, fun b hb => ?_, Cst⟩
    · rw [eL]; exact Heap.get?_none_of_le (Nat.le_trans I.ok.bsz I.ok.above)
    · rw [eL]; exact I1.free
    · rw [eL]; exact ⟨o0, ho0⟩
    · show (∃ acc cn, S3.heap.get? D = _ ∧ _) ∧ ∃ m, S3.heap.Ns C m
      rw [e3h]
      exact ⟨⟨#[], 0, hD1, .nil⟩, _, hns₁⟩
    · rw [eW] at hb
      show _ ∧ ∃ o, S3.heap.get? b = some o ∧ _
      rw [e3h]
      rcases List.mem_cons.mp hb with z | z
      · subst z
        exact ⟨Nat.le_of_eq hDe, _, hD1, fun v q => by cases q⟩
      · rw [List.mem_singleton.mp z]
        obtain ⟨o, es, ep, q1, q2, _⟩ := hns₁
        exact ⟨Nat.le_trans (Nat.le_of_eq hDe) (by rw [hCn]; exact Nat.le_succ D), o, q1, fun v q => by rw [q2] at q; cases q⟩
  have seg0 := seg1 T (S3.setGen g .running) ⟨hr.hd, by have := hr.dp; show X.A.depth + 3 * k + 5 < _; omega, by have := hr.un; show X.A.units + 1 + 16 * k + 200 < _; omega⟩ fr1 hT (fun b o e => by show S3.heap.get? b = _; rw [e3h]; exact kpp b o e) (e3o.trans hos) (allBare_setGen (by rw [e3g]; exact hb) rfl)
  have hg3 : S3.heap.IsGen a g := by rw [e3h]; exact hg.keeps kpp
  have hl3 : S3.heap.NoLimit := by rw [e3h]; exact hlim.keeps kpp
  have hgs3 : S3.gens[g]? = some (.fresh c) := by rw [e3g]; exact hgs
  generalize hRR : (fun (r : Result) (s' : Shared) => ∃ m, s'.heap.Ns C m ∧ ∀ h', Heap.SameBut C s'.heap h' →
            match r with | .ok _ => (L2.EP X pins σ Q) (Value.ref D) { s' with heap := h' } | .error x => wpAny (model X.prog X.w) X.A (PySem.passOn "comprehension.variables-let-go" x ce) (L2.EP X pins σ Q) X.xe { s' with heap := h' }) = RR
  suffices loop : codeAny (model X.prog X.w) X.A (.compLoop (.ListComp (.Name nm p1) [⟨.Name nm p0, iter, [], 0⟩] scope pos) 0 (.ref a) (.ref D) ce) RR S3 by
    have st := codeAny_compStart_list loop (wpAny_pyIter_gen hg3 loop)
    rw [← hRR, ← hce] at st
    refine codeAny_mono st fun r s' z => ?_
    cases r with
    | ok f => exact z
    | error x => exact z
  have fpD : ∀ {H' : Hp}, H' D = none → FpOk X pins H' D := fun n => I1.fpOk hszD n
  have fpC : ∀ {H' : Hp}, H' C = none → FpOk X pins H' C := fun n => I1.fpOk hszC n
  have hgl3 : g < S3.gens.size := (Array.getElem?_eq_some_iff.mp hgs3).1
  have RRok : ∀ s' m (H' : Hp) (ys : List V) (acc : Array Value) (cn : Nat) (u : Shared), s'.heap.Ns C m → Inv X pins σ H1 u → u.heap.objs.size = sc.heap.objs.size → s'.os = u.os → AllBare s'.gens → Un (frs X.stack) [] H1 H' u.heap s'.heap → HOk X.prog X.w H' s'.heap → H' D = none → H' C = none →
      s'.heap.get? D = some (lstObj acc cn) → Vals ys acc.toList → ys.length ≤ sizeLine → (∀ p, H' p = none → Q (.ref p) (upd H' p (.lst ys))) → RR (.ok .next) s' := fun s' m H' ys acc cn u q1 Iu eu q2 q3 un hok nD nC q4 q5 q6 q7 => by
    rw [← hRR]
    refine ⟨m, q1, fun h' sb => ⟨.ref D, upd H' D (.lst ys), ?_, rfl, q7 D nD⟩⟩
    have J : Inv X pins σ (upd H' D (.lst ys)) s' := Iu.drained (by rw [eu]; exact hszD) q6 q4 q5 .nil q2 q3 un hok nD
    have nC' : upd H' D (.lst ys) C = none := by rw [upd_ne (Ne.symm hDC)]; exact nC
    obtain ⟨f0, f1, f2, f3, f4, f5⟩ := fpC nC'
    exact J.turned (t' := s'.toks) (fun b o hb e => (sb.2 b hb).trans e) f0 f1 f3 f4 f5
  refine codeAny_compLoop_list (fun m s' => s'.heap.IsGen a g ∧ s'.heap.NoLimit ∧ ∃ gs, s'.gens[g]? = some gs ∧ gs.Goes (model X.prog X.w) X.A.in1 (REndY X.prog X.w X.stack H1 T a g (fun ys H' => ∀ p, H' p = none → Q (.ref p) (upd H' p (.lst ys))) (E σ)) (YItemY X.prog X.w X.base X.stack H1 T a g) m (.send .none) (s'.setGen g .running)) ?_ sizeLine
    ⟨hg3, hl3, _, hgs3, rfl, seg0⟩
  rintro m s3 ⟨hg3, hl3, gs, hgs3, hgo⟩
  have hgl : g < s3.gens.size := (Array.getElem?_eq_some_iff.mp hgs3).1
  refine wpAny_gsz (n := g + 1) hgl (next_genG (A := X.A) hd hl3 (Nat.lt_of_le_of_lt (Nat.le_add_right _ (3 * (k + 1) + 5)) (by have := hr.dp; omega)) hg3 hgs3 hgo (fun v s₁ gs' hbare hv => ?_) (fun s₁ hpp h' hk => ?_) fun e s₁ he => ?_)
  · intro hsz
    obtain ⟨ys, x, u, H', hn, rv, hV, os1, hb1, hl1, hg1, un, hok, hCC, hws, hLo, hk⟩ := hv
    obtain ⟨Iu, eu⟩ := (eV u).mp hV
    obtain ⟨⟨acc, cn, q1, q2⟩, m', q3⟩ := (eC _ _).mp hCC
    obtain ⟨nD, _⟩ := hws D (by rw [eW]; simp)
    obtain ⟨nC, _⟩ := hws C (by rw [eW]; simp)
    have Iy : Inv X pins σ H' s₁ := Iu.call' (ch := []) os1 un hok hb1 (fun b z => by simp at z)
    have hyl : acc.size ≤ sizeLine := by
      have := q2.length
      have e4 : acc.toList.length = acc.size := by simp
      omega
    have slp : ∀ (h' : Heap) (G : Array GenState) (t : Nat), AllBare G → (∀ b o, b ∉ [D, C] → s₁.heap.get? b = some o → h'.get? b = some o) → (∃ o, h'.get? D = some o ∧ ∀ v, o.data ≠ .cell v) → (∃ o, h'.get? C = some o ∧ ∀ v, o.data ≠ .cell v) →
        Slp T X.base X.stack u s₁ { s₁ with heap := h', gens := G, toks := t } ∧ Inv X pins σ H' { s₁ with heap := h', gens := G, toks := t } := fun h' G t hG hkk hDo hCo => by
      have J1 : Inv X pins σ H' { s₁ with heap := h', toks := t } := Iy.turnedL (ch := [D, C]) hkk fun b hb => by
        rcases List.mem_cons.mp hb with z | z
        · rw [z]; exact fpD nD
        · rw [List.mem_singleton.mp z]; exact fpC nC
      have J : Inv X pins σ H' { s₁ with heap := h', gens := G, toks := t } := J1.call' (ch := []) rfl Un.refl J1.hok hG (fun b z => by simp at z)
      obtain ⟨mL, hnL, hlL⟩ := Iy.loc
      obtain ⟨oL, esL, epL, hoL, rL⟩ := id hnL
      have hoL' : h'.get? X.env.locals = some oL := hkk _ _ (by simp [LD.1, LD.2]) hoL
      refine ⟨⟨rfl, hG, fun b o hb1 hb2 e => hkk b o (by rw [eW] at hb2; exact hb2) e, fun b hb => ?_, J.stack, oL, by rw [eL]; exact hoL', (eV _).mpr ⟨?_, ?_⟩⟩, J⟩
      · rw [eW] at hb
        rcases List.mem_cons.mp hb with z | z
        · rw [z]; exact hDo
        · rw [List.mem_singleton.mp z]; exact hCo
      · rw [eL]
        refine Inv.rebased (m' := mL) Iu hoL' ⟨oL, esL, epL, hoL', rL⟩ fun j y v e1 e2 e3 e4 => ?_
        obtain ⟨w, rv, l⟩ := hlL j y v e1 e2 e3
        rcases l with ⟨_, l⟩ | ⟨l, _⟩
        · exact ⟨w, rv, l⟩
        · rw [e4] at l
          rcases l with l | l <;> cases l
      · show (u.heap.update T.L fun _ => oL).objs.size = _
        rw [Heap.size_update]; exact eu
    have oCell : ∀ {hh : Heap} {mm : Str → Option Value}, hh.Ns C mm → ∃ o, hh.get? C = some o ∧ ∀ v, o.data ≠ .cell v := fun {hh mm} q => by
      obtain ⟨o, es, ep, q4, q5, _⟩ := q
      exact ⟨o, q4, fun v z => by rw [q5] at z; cases z⟩
    have lCell : ∀ {hh : Heap} {acc' : Array Value} {cn' : Nat}, hh.get? D = some (lstObj acc' cn') → ∃ o, hh.get? D = some o ∧ ∀ v, o.data ≠ .cell v := fun q => ⟨_, q, fun v z => by cases z⟩
    have hsz1 : g < s₁.gens.size := by
      have q : (s₁.setGen g gs').gens.size = s₁.gens.size := setGen_size _ _ _
      have hsz' : g + 1 ≤ (s₁.setGen g gs').gens.size := hsz
      omega
    have vpush : ∀ {acc' : Array Value} {ys' : List V} {x' : V} {v' : Value}, Vals ys' acc'.toList → RelV x' v' → Vals (ys' ++ [x']) (acc'.push v').toList := fun {acc' ys' x' v'} r r1 => by
      rw [Array.toList_push]; exact r.append (.cons r1 .nil)
    refine wpAny_assign_Name (wpAny_storeName_local (s := s₁.setGen g gs') ceN (by rw [ceL]; exact q3) (fun h2 hn2 hsb2 => ?_) (by rw [ceK]; rfl))
    rw [ceL] at hn2 hsb2
    rw [eval_Name (hd := hdb)]
    refine wpAny_bind (wpAny_standAt (wpAny_loadName_local (v := v) ceK ceN (by rw [ceL]; exact hn2) (if_pos rfl) ?_))
    have hD2 : h2.get? D = some (lstObj acc cn) := (hsb2.2 D hDC).trans q1
    refine wpAny_list_append_plain (hsz := hyl) (s := { s₁.setGen g gs' with heap := h2, toks := s₁.toks + 1 }) ⟨cn, hD2⟩ fun h3 hp3 hs3 => ?_
    obtain ⟨cn3, hD3⟩ := hp3
    have hn3 := hn2.sameBut hs3 (Ne.symm hDC)
    have keep3 : ∀ b o, b ∉ [D, C] → s₁.heap.get? b = some o → h3.get? b = some o := fun b o hb e => by
      have h1 : b ≠ D := fun z => hb (by simp [z])
      have h2' : b ≠ C := fun z => hb (by simp [z])
      exact (hs3.2 b h1).trans ((hsb2.2 b h2').trans e)
    have sl := slp h3 (s₁.setGen g gs').gens (s₁.toks + 1) (allBare_setGen hb1 hbare) keep3 (lCell hD3) (oCell hn3)
    have cc : T.C (ys ++ [x]) h3 := (eC _ _).mpr ⟨⟨_, _, hD3, vpush q2 rv⟩, _, hn3⟩
    cases m with
    | zero => exact False.elim (hk _ sl.1 cc)
    | succ m =>
      refine ⟨m, Nat.lt_succ_self m, ?_, sl.2.nolimit, gs', setGen_at hsz1, ?_⟩
      · obtain ⟨og, nm1, qn1, hog, hogr⟩ := id hg1
        refine ⟨og, nm1, qn1, keep3 a og (fun z => ?_) hog, hogr⟩
        have h1 : a < D := by rw [← hDe]; exact ha2
        rcases List.mem_cons.mp z with z | z
        · rw [z] at h1; exact absurd h1 (Nat.lt_irrefl _)
        · rw [List.mem_singleton.mp z, hCn] at h1; exact absurd h1 (Nat.not_lt.mpr (Nat.le_succ D))
      · exact hk _ (slp h3 ((s₁.setGen g gs').setGen g .running).gens (s₁.toks + 1) (allBare_setGen (allBare_setGen hb1 hbare) rfl) keep3 (lCell hD3) (oCell hn3)).1 cc
  · intro hsz
    obtain ⟨H', ys, u, hV, os1, hb1, un, hok, hCC, hws, hle, hQ⟩ := hpp
    obtain ⟨Iu, eu⟩ := (eV u).mp hV
    obtain ⟨⟨acc, cn, q1, q2⟩, m', q3⟩ := (eC _ _).mp hCC
    obtain ⟨nD, _⟩ := hws D (by rw [eW]; simp)
    obtain ⟨nC, _⟩ := hws C (by rw [eW]; simp)
    obtain ⟨o, es, ep, q4, q5⟩ := q3
    exact RRok { s₁.setGen g .finished with heap := h' } m' H' ys acc cn u ⟨o, es, ep, hk C o q4, q5⟩ Iu eu os1 (allBare_setGen hb1 rfl) (un.trans (Un.kept hk)) (hok.kept hk) nD nC (hk D _ q1) q2 hle hQ
  · obtain ⟨u, ys, hV, cx, hg1, hCC⟩ := he
    obtain ⟨Iu, eu⟩ := (eV u).mp hV
    obtain ⟨_, m', q3⟩ := (eC _ _).mp hCC
    have cx1 : L2.CX X.prog X.w X.stack H1 u (E σ) e s₁ := by
      obtain ⟨a, B, H', cls, d, z1, fl, z2, ub, z3, z4, z5, z6, _⟩ := cx
      exact ⟨a, B, H', cls, d, z1, fl, z2, ub, z3, z4, z5, z6⟩
    have kin : X.K.In s₁.heap := by
      obtain ⟨a, B, H', cls, d, _, fl, _, ub, _⟩ := cx1
      refine Iu.ok.mod.kin.keeps fun b o eb => fl.1 b o (ub.keep b o (Iu.bs b o eb).1 (Iu.bs b o eb).2 fun hm => ?_)
      rcases List.mem_cons.mp (Iu.stkSub b hm) with z | z
      · have h1 := Heap.lt_size eb
        have h2 := Nat.le_trans Iu.ok.bsz Iu.ok.above
        rw [z] at h1
        exact absurd (Nat.lt_of_lt_of_le h1 h2) (Nat.lt_irrefl _)
      · exact Iu.ok.nofr eb z
    refine ⟨hg1, notStop_of (hns _) kin cx1, fun _ => ?_⟩
    rw [← hRR]
    refine comp_err (W := W) (E := E σ) (m := m') (sc := u) tk hs0 hf ceF Iu (by rw [eu]; exact hszC) q3 (hE σ) ?_
    obtain ⟨a, B, H', cls, d, z1, fl, z2, ub, z3, z4, z5, z6, z7⟩ := cx
    exact ⟨a, B, H', cls, d, z1, fl, z2, ub, z3, z4, allBare_setGen z5 rfl, z6, z7 C (by rw [eW]; simp)⟩
end
section
variable {X : Cx} {k : Nat} {f C : Addr} {fd : FuncData} {ps : List Str} {sp : SpG} {m : Str} {pos' apos : Pos} {o : Expr} {ta : TE}
def tMethY (C : Addr) (m : Str) (sp : SpG) (ta : TE) (t : TA) : TGenY := fun σ H cont E => ta σ H fun x H1 => ∃ a dx fs, x = .ref a ∧ H1 a = some (.ins C dx fs) ∧ fs.lookup m = none ∧ t σ H1 fun vs H2 => sp (x :: vs) H2 cont E
theorem pgenY_meth {pl : Sem Bool} {e : Expr} {es : List Expr} {t : TA} (he : PE X o ta) (c : Cls X.K C) (hm : Meth X.K C m f) (F : GFnY X.prog X.w X.K X.mg X.base k f fd ps sp) (hr : Room k X.A) (hb : Binds X.K fd ps []) (ha : PA X (e :: es) t)
    (hst : starEach (e :: es) X.env = (false, eval e X.env) :: starEach es X.env := by rfl) (hpl : (backTo pos' (starEach es X.env)).any (·.1) = false := by rfl)
    (ht : eval (.Call (.Attribute o m apos) (e :: es) [] pos') X.env = (do
      let ov ← eval o X.env
      standAt apos.atName
      let (f, first) ← holding [ov] (getMethod ov m pl)
      callWith pos' f first (backTo pos' (starEach (e :: es) X.env)) (backToKw pos' (keywordEach [] X.env))) := by rfl) :
    PGenY X k (.Call (.Attribute o m apos) (e :: es) [] pos') (tMethY C m sp ta t) := by
  refine ⟨fun pins s σ H cont E I h => ?_⟩
  refine PySem.W.methodCall_KW (pl := pl) (thn (he.run pins s σ H _ I h) fun u s1 ⟨x, H1, I1, rx, a, dx, fs, ex, ea, l, q⟩ => ?_) ht
  subst ex
  obtain rfl : u = Value.ref a := rx
  refine getmeth_ok I1 ea c hm l ?_
  refine PySem.W.callWith_K (first := [.ref a]) (h₀ := X.base) I.ok.mod.kin hm.kp (thn (ha.run pos' pins s1 σ H1 _ I1 q) fun us s2 ⟨vs, H2, I2, r, q2⟩ => ⟨I2.kIn, ?_⟩) hst hpl
  exact run_gfnY (us := .ref a :: us) (vs := .ref a :: vs) F hr hb I2 (.cons rfl r) q2
end
def scG (sc : Scope) (nm : Str) : Bool := (match sc.kind with | .function => true | _ => false) && (sc.names.all fun y => match y.2 with
    | .cell => false
    | .free => false
    | .local => (match sc.names.lookup y.1 with | some .local => true | _ => false)
    | _ => true) && (match sc.names.lookup nm with | some .local => true | _ => false)
structure ScG (sc : Scope) (nm : Str) : Prop where
  kind : sc.kind = .function
  cell : ∀ x ∈ sc.names, x.2 ≠ .cell
  free : ∀ x ∈ sc.names, x.2 ≠ .free
  names : ∀ x ∈ sc.names, x.2 = .local → sc.names.lookup x.1 = some .local
  own : sc.names.lookup nm = some .local
theorem scG_by {sc : Scope} {nm : Str} (h : scG sc nm = true) : ScG sc nm := by
  unfold scG at h
  simp only [Bool.and_eq_true, List.all_eq_true] at h
  obtain ⟨⟨h1, h2⟩, h3⟩ := h
  refine ⟨?_, fun x hx e => ?_, fun x hx e => ?_, fun x hx e => ?_, ?_⟩
  · split at h1
    · assumption
    · cases h1
  · have q := h2 x hx
    rw [e] at q; cases q
  · have q := h2 x hx
    rw [e] at q; cases q
  · have q := h2 x hx
    rw [e] at q
    dsimp only at q
    split at q
    · assumption
    · cases q
  · split at h3
    · assumption
    · cases h3
def errIn (cs : List Addr) (E : EX) (s : Sl) : Ex → Hq → Prop := fun x h => (∃ b ∈ cs, x.cls = .ref b) ∧ E x s h
def eLcG (fl : Bool) (cs : List Addr) (n : Nat) (c : ConG) (ma : AM) : EM := fun s h Q E => ma s h (fun ts h1 => ts.length = n ∧ c ts h1 (fun out h2 => mk fl out h2 Q) (errIn cs E s)) E
def eLcGM (fl : Bool) (cs : List Addr) (C : Addr) (nm : Str) (n : Nat) (c : ConG) (mo : EM) (ma : AM) : EM := fun s h Q E => mo s h (fun x h1 => match insOf h1 x with
  | some (C', gs) => C' = C ∧ gs.lookup nm = none ∧ ma s h1 (fun ts h2 => ts.length + 1 = n ∧ c (x :: ts) h2 (fun out h3 => mk fl out h3 Q) (errIn cs E s)) E
  | none => False) E
section
variable {X : Cx} {W : WX} {C : Addr}
theorem j_lcG (fl : Bool) {cs : List Addr} {k n : Nat} {f : Addr} {fd : FuncData} {ps : List Str} {c : ConG} {nm x : Str} {p p0 p1 pos pos' : Pos} {scope : Scope} {e : Expr} {es : List Expr} {ma : AM} (hs0 : X.stack = X.env :: X.outer) (hf : X.env.frame = some X.env.locals) (hc : X.calm = true) (sg : ScG scope nm)
    (F : GFnY X.prog X.w X.K X.mg X.base k f fd ps (liftSpG X.K n c)) (hr : Room (k + 1) X.A) (hg : Gl X x) (hm : X.mg x = some (.ref f)) (hk : PySem.W.keepIn X.K (.ref f) = true) (hb : Binds X.K fd ps []) (tk : Takes X W) (hcs : ∀ b ∈ cs, PySem.W.subIn X.K (.ref b) (.type "StopIteration") = some false) (ha : JA X W (e :: es) ma)
    (hdb : (nm == ("__debug__" : Str)) = false := by decide) (hd : (x == ("__debug__" : Str)) = false := by decide) (he : starEach (e :: es) X.env = (false, eval e X.env) :: starEach es X.env := by rfl) (hpl : (backTo pos' (starEach es X.env)).any (·.1) = false := by rfl)
    (hs : ∀ x', foldedSetIterable (.Call (.Name x p) (e :: es) [] pos') X.env x' = pure x' := by intro _; rfl) :
    JE X W (.ListComp (.Name nm p1) [⟨.Name nm p0, .Call (.Name x p) (e :: es) [] pos', [], 0⟩] scope pos) (eLcG fl cs n c ma) :=
  PE.wk (pe_lcG (W := W) (E := fun σ cls d H => (∃ b ∈ cs, cls = .ref b) ∧ W cls d σ H) tk hs0 hf hc sg.cell sg.free sg.kind sg.names sg.own (pgenY_call F (hr.mono (by omega)) hg hm hk hb ha hd he hpl) hr (fun σ cls d H ⟨⟨b, hb, e⟩, _⟩ => by rw [e]; exact hcs b hb) (fun σ cls d H q => q.2) hdb hs) fun σ H Q' ⟨S, h, s, Q, E, mm, rs, lk, q, pk⟩ =>
  ⟨S, h, s, _, E, mm, rs, lk, q, fun S1 H1 h1 vs ts f1 m1 r1 ⟨l1, q1⟩ => ⟨S1, h1, ts, _, _, m1, r1, l1, q1, fun S2 H2 h2 us ys f2 m2 r2 q2 => fun p hp => mk_ok m2 r2 q2 (pk.fut (f1.trans f2)) p hp,
    fun S2 H2 h2 x cls d f2 m2 r2 ⟨⟨b, hb, e⟩, q2⟩ => ⟨⟨b, hb, r2.1.trans e⟩, lk S2 H2 h2 σ s x cls d (f1.trans f2) m2 (rs.fut (f1.trans f2)) r2 q2⟩⟩⟩
theorem j_lcGM (fl : Bool) {cs : List Addr} {k n : Nat} {f : Addr} {fd : FuncData} {ps : List Str} {c : ConG} {nm m : Str} {p0 p1 pos pos' apos : Pos} {scope : Scope} {e o : Expr} {es : List Expr} {mo : EM} {ma : AM} {pl : Sem Bool} (hs0 : X.stack = X.env :: X.outer) (hf : X.env.frame = some X.env.locals) (hc : X.calm = true) (sg : ScG scope nm)
    (hcl : Cls X.K C) (hme : Meth X.K C m f) (F : GFnY X.prog X.w X.K X.mg X.base k f fd ps (liftSpG X.K n c)) (hr : Room (k + 1) X.A) (hb : Binds X.K fd ps []) (tk : Takes X W) (hcs : ∀ b ∈ cs, PySem.W.subIn X.K (.ref b) (.type "StopIteration") = some false) (ho : JE X W o mo) (ha : JA X W (e :: es) ma)
    (hdb : (nm == ("__debug__" : Str)) = false := by decide) (hst : starEach (e :: es) X.env = (false, eval e X.env) :: starEach es X.env := by rfl) (hpl : (backTo pos' (starEach es X.env)).any (·.1) = false := by rfl)
    (ht : eval (.Call (.Attribute o m apos) (e :: es) [] pos') X.env = (do
      let ov ← eval o X.env
      standAt apos.atName
      let (f, first) ← holding [ov] (getMethod ov m pl)
      callWith pos' f first (backTo pos' (starEach (e :: es) X.env)) (backToKw pos' (keywordEach [] X.env))) := by rfl)
    (hs : ∀ x', foldedSetIterable (.Call (.Attribute o m apos) (e :: es) [] pos') X.env x' = pure x' := by intro _; rfl) :
    JE X W (.ListComp (.Name nm p1) [⟨.Name nm p0, .Call (.Attribute o m apos) (e :: es) [] pos', [], 0⟩] scope pos) (eLcGM fl cs C m n c mo ma) :=
  PE.wk (pe_lcG (W := W) (E := fun σ cls d H => (∃ b ∈ cs, cls = .ref b) ∧ W cls d σ H) tk hs0 hf hc sg.cell sg.free sg.kind sg.names sg.own (pgenY_meth ho hcl hme F (hr.mono (by omega)) hb ha hst hpl ht) hr (fun σ cls d H ⟨⟨b, hb, e⟩, _⟩ => by rw [e]; exact hcs b hb) (fun σ cls d H q => q.2) hdb hs) fun σ H Q' ⟨S, h, s, Q, E, mm, rs, lk, q, pk⟩ =>
  ⟨S, h, s, _, E, mm, rs, lk, q, fun S1 H1 h1 v x f1 m1 r1 q1 => by
    split at q1
    · rename_i C' gs e1
      obtain ⟨rfl, l, q1⟩ := q1
      obtain ⟨a, dx, fs, rfl, ea, rf⟩ := insOf_ok m1 r1 e1
      refine ⟨a, dx, fs, rfl, ea, rf.nolook l, S1, h1, s, _, E, m1, rs.fut f1, lk.fut f1, q1, fun S2 H2 h2 vs ts f2 m2 r2 ⟨l2, q2⟩ => ?_⟩
      exact ⟨S2, h2, x :: ts, _, _, m2, .cons (r1.fut f2) r2, l2, q2, fun S3 H3 h3 us out f3 m3 r3 q3 => fun p hp => mk_ok m3 r3 q3 (pk.fut (f1.trans (f2.trans f3))) p hp,
        fun S3 H3 h3 x cls d f3 m3 r3 ⟨⟨b, hb, e⟩, q3⟩ => ⟨⟨b, hb, r3.1.trans e⟩, lk S3 H3 h3 σ s x cls d (f1.trans (f2.trans f3)) m3 (rs.fut (f1.trans (f2.trans f3))) r3 q3⟩⟩
    · exact q1.elim⟩
end
end TL

set_option maxHeartbeats 1000000
namespace TL
open PySem PySem.Spec PySem.Calls PyProof.Rows L2 GenW
section
variable {X : Cx} {xe : Ix → Value → Shared → Prop}
def tGIf (tc : TT) (ta tb : TGn) : TGn := fun D ys σ H => tc σ H fun b H1 => if b = true then ta D ys σ H1 else tb D ys σ H1
theorem gy_if {test : Expr} {body orelse : List Stmt} {pos : Pos} {tc : TT} {ta tb : TGn} (hc : ∀ u, PT (reX X xe u) test tc) (ha : GSys X xe body ta) (hb : GSys X xe orelse tb) : GSy X xe (.If test body orelse pos) (tGIf tc ta tb) := by
  refine ⟨fun A T ip R n ys s₀ c fs K J gd lv s σ H D g hn k hI ht => ?_⟩
  obtain ⟨cp, u, hcp, I, hV, hC, hu, hn0⟩ := hI
  rw [exec_If]
  refine seg_bind_wrap (wpAny_standAt ?_)
  refine seg_bind_wrap ?_
  rw [g.over]
  refine wpAny_mono ((hc (u, cp)).run _ s σ H _ I ht) (fun b s1 hb1 => ?_) fun x s' hx => k.exc n s₀ x s' (u, cp) (vq_of hcp I hV hC) hx
  obtain ⟨H1, I1, q⟩ := hb1
  have I1' : GIy X xe T ip ys σ H1 s1 := ⟨cp, u, hcp, I1, hV, C_stay g.ok hcp I I1 hC, hu, hn0⟩
  cases b with
  | true => exact ha.run A T ip R n ys s₀ c fs K J gd lv s1 σ H1 D g hn k I1' q
  | false => exact hb.run A T ip R n ys s₀ c fs K J gd lv s1 σ H1 D g hn k I1' q
theorem gy_while {test : Expr} {body : List Stmt} {pos : Pos} {tc : TT} {tb : TGn} (hp : ∀ u, PassesOwn (model X.prog X.w) X.A X.env (xe u)) (hc : ∀ u, PT (reX X xe u) test tc) (hb : GSys X xe body tb) : GSy X xe (.While test body [] pos) (tGWhile tc tb) := by
  refine ⟨fun A T ip R n ys s₀ c fs K J gd lv s σ H D g hn k hI ht => ?_⟩
  obtain ⟨W, ⟨m0, w0⟩, turn⟩ := ht
  refine seg_While fun p => ?_
  have gl := fun (kk : Result → Sem PySem.Fin) => gc_loopy (k := kk) (c' := .whileLoop test body [] X.env) (l := lv []) (kp := []) (p := p) g rfl rfl
  have loop : ∀ (m n : Nat) (ys : List V) (s₀ s : Shared) (σ : L2.St) (H : Hp), n + ys.length = sizeLine → W m ys σ H → GIy X xe T ip ys σ H s →
      Seg (model X.prog X.w) A R (YY X xe T) n s₀ (.whileLoop test body [] X.env) ((model X.prog X.w).den (.whileLoop test body [] X.env))
        (.ret (fun r => ((match r with | .ok f => (.pure f : Sem Flow) | .error e => .raise e).onRaise (cameBack X.env)).wrap K J gd lv) none (gd false) (lv []) c p [] :: fs) s := by
    intro m
    induction m using Nat.strongRecOn with
    | ind m ih =>
      intro n ys s₀ s σ H hn w hI
      have ee : ∀ (n : Nat) (s₀ : Shared) (x : Value) (s' : Shared) (i : Ix), Vq T i → xe i x s' → Seg (model X.prog X.w) A R (YY X xe T) n s₀ (.whileLoop test body [] X.env)
          ((do noteFrame x X.env; theTreesLotGoes x : Sem Unit).wrap (fun _ => .raise x) .raise id id)
          (.ret (fun r => ((match r with | .ok f => (.pure f : Sem Flow) | .error e => .raise e).onRaise (cameBack X.env)).wrap K J gd lv) none (gd false) (lv []) c p [] :: fs) s' := fun n s₀ x s' i hV hx => by
        refine seg_wrap ?_
        rw [(gl _).over]
        refine wpAny_bind (wpAny_mono (hp i x s' hx) (fun _ s'' hcb => wpAny_theTreesLotGoes ?_) fun y s'' hcb => ?_)
        · exact seg_leaf (.error x) (seg_cameBackY g k hV hcb)
        · exact seg_leaf (.error y) (seg_cameBackY g k hV hcb)
      refine seg_whileLoop ?_
      rw [(gl _).over]
      obtain ⟨cp, u, hcp, I, hV, hC, hu, hn0⟩ := hI
      refine wpAny_mono ((hc (u, cp)).run _ s σ H _ I (turn m ys σ H w)) (fun b s' hb' => ?_) fun x s' hx => ee n s₀ x s' (u, cp) (vq_of hcp I hV hC) hx
      obtain ⟨H2, I2, q2⟩ := hb'
      have I2' : GIy X xe T ip ys σ H2 s' := ⟨cp, u, hcp, I2, hV, C_stay g.ok hcp I I2 hC, hu, hn0⟩
      cases b with
      | true =>
        obtain ⟨N, hN, q2⟩ := q2
        rw [if_pos rfl]
        refine hb.run A T ip R n ys s₀ _ _ _ _ id id s' σ H2 { D with nx := N, ct := N, bk := D.nx } (gl _) hn ⟨fun n' ys' s₀' s3 f hn' hs => ?_, fun n' s₀' x s3 i hV hx => ee n' s₀' x s3 i hV hx⟩ I2' q2
        cases f with
        | next =>
          obtain ⟨σ3, H3, I3, n3⟩ := hs
          obtain ⟨m', hm, w3⟩ := hN ys' σ3 H3 n3
          exact seg_again rfl (ih m' hm n' ys' s₀' s3 σ3 H3 hn' w3 I3)
        | cont =>
          obtain ⟨σ3, H3, I3, n3⟩ := hs
          obtain ⟨m', hm, w3⟩ := hN ys' σ3 H3 n3
          exact seg_again rfl (ih m' hm n' ys' s₀' s3 σ3 H3 hn' w3 I3)
        | brk => exact seg_leaf (.ok .next) (k.ok n' ys' s₀' s3 .next hn' hs)
        | ret v => exact seg_leaf (.ok (.ret v)) (k.ok n' ys' s₀' s3 (.ret v) hn' hs)
      | false =>
        rw [if_neg Bool.false_ne_true]
        refine seg_execs_nil ?_
        exact seg_leaf (.ok .next) (k.ok n ys s₀ s' .next hn ⟨σ, H2, I2', q2⟩)
  exact loop m0 n ys s₀ s σ H hn w0 hI
end
def yIf (c : TM) (a b : GnM) : GnM := fun D ys s h => c s h (fun d h1 => if d = true then a D ys s h1 else b D ys s h1) D.ex
def yWhile (c : TM) (b : GnM) : GnM := fun D ys s h => ∃ I : Nat → List T → SK, (∃ n, I n ys s h) ∧ ∀ n ys s h, I n ys s h → c s h (fun d h1 => if d = true then b { D with nx := fun ys' s' h' => ∃ n', n' < n ∧ I n' ys' s' h', ct := fun ys' s' h' => ∃ n', n' < n ∧ I n' ys' s' h', bk := D.nx } ys s h1 else D.nx ys s h1) D.ex
section
variable {X : Cx} {xe : Ix → Value → Shared → Prop} {W : WX}
theorem jz_if {c : Expr} {body orelse : List Stmt} {pos : Pos} {mc : TM} {a b : GnM} (hc : ∀ u, JT (reX X xe u) W c mc) (ha : JZ X xe W body a) (hb : JZ X xe W orelse b) : JZ1 X xe W (.If c body orelse pos) (yIf mc a b) := GSy.wk (gy_if (tc := liftT X.K W mc) hc ha hb) fun D' ys σ H ⟨S, h, s, D, ts, mm, rs, rl, lk, q⟩ =>
  ⟨S, h, s, _, D.ex, mm, rs, lk.ex, q, fun S1 H1 h1 d f1 m1 q1 => by
    cases d with
    | true =>
      rw [if_pos rfl] at q1 ⊢
      exact ⟨S1, h1, s, D, ts, m1, rs.fut f1, rl.fut f1, lk.fut f1, q1⟩
    | false =>
      rw [if_neg Bool.false_ne_true] at q1 ⊢
      exact ⟨S1, h1, s, D, ts, m1, rs.fut f1, rl.fut f1, lk.fut f1, q1⟩⟩
theorem jz_while {c : Expr} {body : List Stmt} {pos : Pos} {mc : TM} {b : GnM} (hp : ∀ u, PassesOwn (model X.prog X.w) X.A X.env (xe u)) (hc : ∀ u, JT (reX X xe u) W c mc) (hb : JZ X xe W body b) : JZ1 X xe W (.While c body [] pos) (yWhile mc b) := GSy.wk (gy_while (tc := liftT X.K W mc) hp hc hb) fun D' ys σ H ⟨S, h, s, D, ts, mm, rs, rl, lk, q⟩ => by
  obtain ⟨I, ⟨n, i0⟩, step⟩ := q
  refine ⟨fun n vs σ1 H1 => ∃ S1 h1 s1 us, Fut S H S1 H1 ∧ Sim X.K S1 H1 h1 ∧ RepS X.K S1 H1 σ1 s1 ∧ RepL X.K S1 H1 vs us ∧ I n us s1 h1, ⟨n, S, h, s, ts, Fut.refl, mm, rs, rl, i0⟩, ?_⟩
  rintro n vs σ1 H1 ⟨S1, h1, s1, us, f1, m1, r1, rl1, i1⟩
  refine ⟨S1, h1, s1, _, D.ex, m1, r1, lk.ex.fut f1, step n us s1 h1 i1, fun S2 H2 h2 d f2 m2 q2 => ?_⟩
  cases d with
  | true =>
    rw [if_pos rfl] at q2 ⊢
    have lka := lk.fut (f1.trans f2)
    have nxt : ∀ S3 H3 h3 σ s vs ts, Fut S2 H2 S3 H3 → Sim X.K S3 H3 h3 → RepS X.K S3 H3 σ s → RepL X.K S3 H3 vs ts → (∃ n', n' < n ∧ I n' ts s h3) → ∃ n', n' < n ∧ ∃ S1 h1 s1 us, Fut S H S1 H3 ∧ Sim X.K S1 H3 h1 ∧ RepS X.K S1 H3 σ s1 ∧ RepL X.K S1 H3 vs us ∧ I n' us s1 h1 := fun S3 H3 h3 σ3 s3 vs3 ts3 f3 m3 r3 rl3 ⟨n', hn, i3⟩ => ⟨n', hn, S3, h3, s3, ts3, (f1.trans f2).trans f3, m3, r3, rl3, i3⟩
    exact ⟨_, fun vs' σ' H' q => q, S2, h2, s1, { D with nx := fun ys' s' h' => ∃ n', n' < n ∧ I n' ys' s' h', ct := fun ys' s' h' => ∃ n', n' < n ∧ I n' ys' s' h', bk := D.nx }, us, m2, r1.fut f2, rl1.fut f2, { nx := nxt, rt := lka.rt, bk := lka.nx, ct := nxt, ex := lka.ex }, q2⟩
  | false =>
    rw [if_neg Bool.false_ne_true] at q2 ⊢
    exact lk.nx S2 H2 h2 σ1 s1 vs us (f1.trans f2) m2 (r1.fut f2) (rl1.fut f2) q2
end
end TL

set_option maxHeartbeats 1000000
namespace TL
open PySem PySem.Spec PySem.Calls PyProof.Rows L2 GenW
abbrev SpN := List V → Hp → XK → Prop
def REndN (P : Program) (w : World) (outer : List Env) (H : Hp) (sc : Shared) (a : Addr) (g : Nat) (E : XK) : GenEnd := fun _ _ r s1 => ((r = .ok (.ret .none) ∨ r = .ok .next) ∧ False) ∨ ∃ e, r = .error e ∧ (CX P w outer H sc E e s1 ∧ s1.heap.IsGen a g)
def GMadeN (P : Program) (w : World) (k : Nat) (outer : List Env) (H : Hp) (s : Shared) (E : XK) (u : Value) (s' : Shared) : Prop :=
  ∃ (a : Addr) (g : Nat) (c : Code), u = .ref a ∧ s.heap.objs.size ≤ a ∧ a < s'.heap.objs.size ∧ s'.heap.IsGen a g ∧ s'.gens[g]? = some (.fresh c) ∧ s'.os = s.os ∧ AllBare s'.gens ∧ s'.heap.NoLimit ∧ (∀ b o, s.heap.get? b = some o → s'.heap.get? b = some o) ∧
    ∀ (A : Around) (s2 : Shared), Room k A → A.frames = some outer → (∀ b o, s'.heap.get? b = some o → s2.heap.get? b = some o) → s2.os = s.os → AllBare s2.gens →
      Seg (model P w) A (REndN P w outer H s a g E) (fun _ _ _ _ _ => False) sizeLine s2 c ((model P w).den c) [] s2
structure GFnN (P : Program) (w : World) (K : PySem.W.Frag) (mg : Str → Option Value) (base : Heap) (k : Nat) (f : Addr) (fd : FuncData) (ps : List Str) (sp : SpN) : Prop where
  len : ∀ vs H E, sp vs H E → vs.length = ps.length
  run : ∀ (A : Around) (outer : List Env) (s : Shared) (H : Hp) (args : Args) (us : List Value) (vs : List V) (E : XK), Room k A → Env0 P w K mg base A outer s H → BindsTo s fd args (ps.zip us) → Vals vs us → sp vs H E →
    codeAny (model P w) A (.call (.ref f) args) (fun r s' => match r with | .ok (.ret u) => GMadeN P w k outer H s E u s' | _ => False) s
theorem gfnN_of {P : Program} {w : World} {K : PySem.W.Frag} {mg : Str → Option Value} {base : Heap} {k : Nat} {f : Addr} {name qual : Str} {params : Arguments} {body : List Stmt} {scope : Scope} {dV kV doc pm cdv ct oc : Value} {an od : Option Addr}
    {osl : Array (Option Value)} {N ps : List Str} {sp : SpN} (lk : K.lookup f = some ⟨oc, od, .func (PySem.W.fnOf name qual params body scope dV kV doc pm an cdv ct), osl⟩) (hcd : PySem.W.codeIn K cdv qual = true) (S : GScope N ps scope)
    (len : ∀ vs H E, sp vs H E → vs.length = ps.length)
    (hbody : ∀ (A : Around) (outer : List Env) (s : Shared) (H : Hp) (vs : List V) (E : XK) (pn : List (Addr × Obj)), Room k (A.deeper (envOfC qual scope s.heap.objs.size f cdv)) → sp vs H E →
      ∃ t, PSs (gcxOf P w K mg base N qual scope f cdv A outer s H E pn) body t ∧ t { nx := fun _ _ => False, rt := fun _ _ => False } (start N vs) H) :
    GFnN P w K mg base (k + 1) f (PySem.W.fnOf name qual params body scope dV kV doc pm an cdv ct) ps sp := by
  refine ⟨len, fun A outer s H args us vs E hr e0 hb r hsp => ?_⟩
  have hl := len _ _ _ hsp
  have KX : K.In s.heap := e0.mod.kin.keeps fun b o e => (e0.bs b o e).1
  have lim : s.heap.NoLimit := e0.mod.nolimit.keeps fun b o e => (e0.bs b o e).1
  have hkind : ∀ y ∈ ps.zip us, scope.names.lookup y.1 = some .local ∨ (scope.names.lookup y.1 = some .cell ∧ ((cellsFrom (s.heap.objs.size + 1) scope.names []).lookup y.1).isSome = true) := fun ⟨n, v⟩ hy => by
    rcases S.par n (List.of_mem_zip hy).1 with q | q
    · exact .inl q
    · exact .inr ⟨q, PySem.W.cellsFrom_some _ _ _ (.inl q)⟩
  refine codeAny_call_generator hr.depth (KX _ _ lk) rfl S.co S.gen rfl (PySem.W.codeRec_of KX hcd) (hb _ _ _ _ ?_)
  refine wpAny_newFunctionEnv_cells S.kind hkind fun env he s1 x => ?_
  subst he
  have lim1 : s1.heap.NoLimit := lim.keeps x.toInCall.keep
  refine ⟨lim1, ?_⟩
  obtain ⟨h1, tk, es1, hk1⟩ := x.done
  have os1 : s1.os = s.os := by rw [es1]
  have gen1 : s1.gens = s.gens := by rw [es1]
  have lt1 : s.heap.objs.size < s1.heap.objs.size := x.toInCall.ns.lt
  have sz1 : s.heap.objs.size ≤ s1.heap.objs.size := Nat.le_of_lt lt1
  have kp1 : ∀ b o, s.heap.get? b = some o → s1.heap.get? b = some o := x.toInCall.keep
  have main : ∀ (go : Obj) (nm qn : Value) (tk2 : Nat), go.cls = .type "generator" → go.data = .fields #[.int s1.gens.size 0, nm, qn] → go.slots = #[] → (∀ h : Heap, (h.push go).get? h.objs.size = some go) →
      GMadeN P w (k + 1) outer H s E (.ref s1.heap.objs.size) { s1 with gens := s1.gens.push (.fresh (.func body (envOfC qual scope s.heap.objs.size f cdv))), toks := tk2, heap := s1.heap.push go } := by
    intro go nm qn tk2 hgc hgd0 hgs hgp
    have hgen : ∀ h : Heap, h.get? s1.heap.objs.size = some go → h.IsGen s1.heap.objs.size s1.gens.size := fun h e => ⟨go, nm, qn, e, hgc, hgd0, hgs⟩
    have hpushed : (s1.heap.push go).get? s1.heap.objs.size = some go := hgp _
    refine ⟨s1.heap.objs.size, s1.gens.size, _, rfl, sz1, ?_, hgen _ hpushed, Array.getElem?_push_size .., os1, ?_, lim1.keeps fun b o e => Heap.get?_push_of_some _ e, fun b o e => Heap.get?_push_of_some _ (kp1 b o e), ?_⟩
    · show _ < (s1.heap.push _).objs.size
      rw [Heap.size_push]; exact Nat.lt_succ_self _
    · exact AllBare.push (by rw [gen1]; exact e0.bare) rfl
    intro Aw s2 hrw hfr hk2 hos hba
    have e0w : Env0 P w K mg base Aw outer s H := ⟨hfr, e0.mod, e0.bs, e0.bsz, e0.funs, e0.frf, e0.hok, e0.bare⟩
    obtain ⟨t, ht, hq⟩ := hbody Aw outer s H vs E [(s1.heap.objs.size, go)] (hrw.deeper _) hsp
    have I1 : Inv (gcxOf P w K mg base N qual scope f cdv Aw outer s H E []) [] (start N vs) H s1 := inv_startG S hrw.hd e0w hl r x
    have kp2 : ∀ b o, s1.heap.get? b = some o → s2.heap.get? b = some o := fun b o e => hk2 b o (Heap.get?_push_of_some _ e)
    have I2 : Inv (gcxOf P w K mg base N qual scope f cdv Aw outer s H E []) [] (start N vs) H s2 :=
      I1.call' (ch := []) (hos.trans os1.symm) (Un.kept kp2) (I1.hok.kept kp2) hba fun b z => by simp at z
    have hea : s2.heap.get? s1.heap.objs.size = some go := hk2 s1.heap.objs.size go hpushed
    have hgd : ∀ v, go.data ≠ .cell v := fun v q => by rw [hgd0] at q; cases q
    have I3 : Inv (gcxOf P w K mg base N qual scope f cdv Aw outer s H E [(s1.heap.objs.size, go)]) [] (start N vs) H s2 := Inv.pinnedG I2 fun p hp => by
      rw [List.append_nil] at hp
      rw [List.mem_singleton.mp hp]
      exact ⟨hea, I1.hok.fresh (Nat.le_refl _), Nat.ne_of_gt lt1, I1.nofs (Nat.le_refl _), hgd⟩
    refine seg_func ?_
    refine seg_wrap ?_
    rw [over_func]
    refine wpAny_mono (ht.run [] s2 (start N vs) H _ I3 hq) (fun f s' hs => ?_) fun e s' hx => ?_
    · cases f with
      | next => obtain ⟨_, _, _, q⟩ := hs; exact False.elim q
      | brk => obtain ⟨_, _, _, q⟩ := hs; exact False.elim q
      | cont => obtain ⟨_, _, _, q⟩ := hs; exact False.elim q
      | ret v0 => obtain ⟨_, _, _, _, _, q⟩ := hs; exact False.elim q
    · refine seg_wrap ?_
      rw [over_func]
      refine wpAny_mono (show wpAny (model P w) (Aw.deeper (envOfC qual scope s.heap.objs.size f cdv)) (leaving (envOfC qual scope s.heap.objs.size f cdv) e) (fun _ s'' => CX P w outer H s E e s'' ∧ ∀ p ∈ [(s1.heap.objs.size, go)], s''.heap.get? p.1 = some p.2) (fun _ _ => False) s' from hx) (fun _ s'' q => ?_) fun _ s'' q => q.elim
      exact seg_end (.error e) (.inr ⟨e, rfl, q.1, hgen _ (q.2 (s1.heap.objs.size, go) (List.mem_singleton.mpr rfl))⟩)
  exact main _ _ _ _ rfl rfl rfl fun h => Heap.get?_push_size _ rfl
abbrev TGenN := L2.St → Hp → XK → Prop
structure PGenN (X : Cx) (k : Nat) (e : Expr) (tg : TGenN) : Prop where
  run : ∀ (pins : List (Addr × Obj)) (s : Shared) (σ : L2.St) (H : Hp) (E : XK), Inv X pins σ H s → tg σ H E → wpAny (model X.prog X.w) X.A (eval e X.env)
    (fun u s' => ∃ H1 sc, Inv X pins σ H1 sc ∧ GMadeN X.prog X.w k X.stack H1 sc E u s') X.xe s
section
variable {X : Cx} {k : Nat} {f : Addr} {fd : FuncData} {ps : List Str} {sp : SpN} {x : Str} {p pos : Pos}
def tCallN (sp : SpN) (t : TA) : TGenN := fun σ H E => t σ H fun vs H1 => sp vs H1 E
theorem pgenN_call {e : Expr} {es : List Expr} {t : TA} (F : GFnN X.prog X.w X.K X.mg X.base k f fd ps sp) (hr : Room k X.A) (hg : Gl X x) (hm : X.mg x = some (.ref f)) (hk : PySem.W.keepIn X.K (.ref f) = true) (hb : Binds X.K fd ps [])
    (ha : PA X (e :: es) t) (hdb : (x == ("__debug__" : Str)) = false := by decide) (he : starEach (e :: es) X.env = (false, eval e X.env) :: starEach es X.env := by rfl) (hpl : (backTo pos (starEach es X.env)).any (·.1) = false := by rfl) :
    PGenN X k (.Call (.Name x p) (e :: es) [] pos) (tCallN sp t) := by
  refine ⟨fun pins s σ H E I h => ?_⟩
  refine wpAny_Call_Name_kw (ld_glob I hg hm ?_ hdb)
  refine PySem.W.callWith_K (h₀ := X.base) I.ok.mod.kin hk (thn (ha.run pos pins s σ H _ I h) fun us s1 ⟨vs, H1, I1, r, q⟩ => ⟨I1.kIn, ?_⟩) he hpl
  have hl2 : us.length = ps.length := by rw [← r.length]; exact F.len _ _ _ q
  have b := hb s1 us I1.kIn (by rw [List.append_nil]; exact hl2)
  rw [List.append_nil] at b
  refine wpAny_call (codeAny_mono (F.run X.A X.stack s1 H1 ⟨us, []⟩ us vs E hr I1.env0 b r q) fun r s' hq => ?_)
  cases r with
  | error e => exact False.elim hq
  | ok fl =>
    cases fl with
    | ret u => exact ⟨H1, s1, I1, hq⟩
    | next => exact False.elim hq
    | brk => exact False.elim hq
    | cont => exact False.elim hq
def tForN (E : L2.St → XK) (tg : TGenN) : TS := fun _ σ H => tg σ H (E σ)
theorem ps_forN {tgt iter : Expr} {body orelse : List Stmt} {pos : Pos} {tg : TGenN} {E : L2.St → XK} (hp : PassesOwn (model X.prog X.w) X.A X.env X.xe) (hc : X.calm = true) (hG : PGenN X k iter tg) (hr : Room (k + 1) X.A)
    (hns : ∀ σ, NoStop X.K (E σ)) (hx : ∀ σ, PassesAt (L2.CX X.prog X.w) X σ (E σ)) (hs : ∀ x, foldedSetIterable iter X.env x = pure x := by intro _; rfl) : PS X (.For tgt iter body orelse pos) (tForN E tg) := by
  refine ⟨fun pins s σ H D I h => ?_⟩
  refine wpAny_For (thn (hG.run pins s σ H _ I h) fun v s1 ⟨H1, sc, I1, hM⟩ => ?_) hs
  obtain ⟨a, g, c, rfl, ha1, ha2, hg, hgs, hos, hb, hlim, hkp, wake⟩ := hM
  refine wpAny_pyIter_gen hg ?_
  have hd : X.A.handled = none := I.ok.hd hc
  have seg0 := wake X.A.in1 (s1.setGen g .running) ⟨hr.hd, by have := hr.dp; show X.A.depth + 3 * k + 5 < _; omega, by have := hr.un; show X.A.units + 1 + 16 * k + 200 < _; omega⟩ I1.ok.frames (fun _ _ e => e) hos (allBare_setGen hb rfl)
  refine codeAny_forLoop_any (fun m s' => s' = s1) ?_ 0 rfl
  rintro m s3 rfl
  refine wpAny_passesOwn hp (next_genG (n := sizeLine) (A := X.A) (gs := .fresh c) hd hlim (Nat.lt_of_le_of_lt (Nat.le_add_right _ (3 * (k + 1) + 5)) (by have := hr.dp; omega)) hg hgs ⟨rfl, seg0⟩ (fun v s₁ gs' hbare hv => False.elim hv) (fun s₁ hpp h' hk => False.elim hpp) fun e s₁ he => ?_)
  obtain ⟨cx, hg1⟩ := he
  have kin : X.K.In s₁.heap := by
    obtain ⟨a, B, H', cls, d, _, fl, _, ub, _⟩ := id cx
    refine I1.ok.mod.kin.keeps fun b o eb => fl.1 b o (ub.keep b o (I1.bs b o eb).1 (I1.bs b o eb).2 fun hm => ?_)
    rcases List.mem_cons.mp (I1.stkSub b hm) with z | z
    · have h1 := Heap.lt_size eb
      have h2 := Nat.le_trans I1.ok.bsz I1.ok.above
      rw [z] at h1
      exact absurd (Nat.lt_of_lt_of_le h1 h2) (Nat.lt_irrefl _)
    · exact I1.ok.nofr eb z
  refine ⟨hg1, notStop_of (hns _) kin cx, hx _ pins H1 sc e _ I1 ?_⟩
  obtain ⟨a, B, H', cls, d, z1, fl, z2, ub, z3, z4, z5, z6⟩ := cx
  exact ⟨a, B, H', cls, d, z1, fl, z2, ub, z3, z4, allBare_setGen z5 rfl, z6⟩
end
abbrev ConN := List T → Hq → (Ex → Hq → Prop) → Prop
def liftSpN (K : PySem.W.Frag) (n : Nat) (c : ConN) : SpN := fun vs H E' => ∃ S h ts E, Sim K S H h ∧ RepL K S H vs ts ∧ ts.length = n ∧ c ts h E ∧ PX K S H E E'
def endsN (E : Ex → Hq → Prop) : En := { nx := fun _ _ => False, rt := fun _ _ => False, ex := fun x _ h => dnX E x h }
theorem gfnN_ok {P : Program} {w : World} {K : PySem.W.Frag} {mg : Str → Option Value} {base : Heap} {x qual : Str} {st : Stmt} {f : Addr} {fd : FuncData} {N ps : List Str} {k : Nat} {c : ConN} {B : SM} (F : Fun K x qual st f fd) (sc : GScope N ps (defScope st)) (hl : ps.length ≤ N.length)
    (J : ∀ (cdv : Value) (A : Around) (outer : List Env) (s : Shared) (H : Hp) (E : XK) (pn : List (Addr × Obj)), Room k (A.deeper (PyProof.Rows.envOfC qual (defScope st) s.heap.objs.size f cdv)) →
      JSs (gcxOf P w K mg base N qual (defScope st) f cdv A outer s H E pn) (fun cls d _ H => E cls d H) (defBody st) B)
    (pl : ∀ ts h E, ts.length = ps.length → c ts h E → B (endsN E) (startT N.length ts) h) : GFnN P w K mg base (k + 1) f fd ps (liftSpN K ps.length c) := by
  obtain ⟨oc, od, kV, doc, pm, an, cdv, ct, osl, rfl, lk, hcd⟩ := F.ex
  refine gfnN_of lk hcd sc (fun vs H E ⟨S, h, ts, E', m, r, l, _⟩ => r.length.trans l) fun A outer s H vs E pn hr ⟨S, h, ts, E', m, r, l, q, px⟩ => ⟨_, J cdv A outer s H E pn hr, ?_⟩
  refine ⟨S, h, startT N.length ts, endsN E', m, RepS.start (N := N) r (by rw [r.length, l]; exact hl), ?_, pl ts h E' l q⟩
  exact { nx := fun _ _ _ _ _ _ _ _ z => z.elim, rt := fun _ _ _ _ _ _ _ _ z => z.elim, bk := fun _ _ _ _ _ _ _ _ z => z.elim, ct := fun _ _ _ _ _ _ _ _ z => z.elim,
          ex := fun S1 H1 h1 σ1 s1 x cls d f1 m1 r1 rx ⟨h2, z, q1⟩ => px S1 H1 h2 x cls d f1 (m1.sub z) rx q1 }
def sForN (cs : List Addr) (n : Nat) (c : ConN) (a : AM) : SM := fun D s h => a s h (fun ts h1 => ts.length = n ∧ c ts h1 (errIn cs D.ex s)) D.ex
theorem js_forN {X : Cx} {W : WX} {cs : List Addr} {k n : Nat} {f : Addr} {fd : FuncData} {ps : List Str} {c : ConN} {x : Str} {p pos pos' : Pos} {tgt e : Expr} {es : List Expr} {body : List Stmt} {a : AM} (hp : PassesOwn (model X.prog X.w) X.A X.env X.xe) (hcm : X.calm = true)
    (F : GFnN X.prog X.w X.K X.mg X.base k f fd ps (liftSpN X.K n c)) (hr : Room (k + 1) X.A) (hg : Gl X x) (hm : X.mg x = some (.ref f)) (hk : PySem.W.keepIn X.K (.ref f) = true) (hb : Binds X.K fd ps []) (tk : Takes X W) (hcs : ∀ b ∈ cs, PySem.W.subIn X.K (.ref b) (.type "StopIteration") = some false) (ha : JA X W (e :: es) a)
    (hd : (x == ("__debug__" : Str)) = false := by decide) (he : starEach (e :: es) X.env = (false, eval e X.env) :: starEach es X.env := by rfl) (hpl : (backTo pos' (starEach es X.env)).any (·.1) = false := by rfl)
    (hs : ∀ x', foldedSetIterable (.Call (.Name x p) (e :: es) [] pos') X.env x' = pure x' := by intro _; rfl) :
    JS X W (.For tgt (.Call (.Name x p) (e :: es) [] pos') body [] pos) (sForN cs n c a) :=
  PS.wk (ps_forN (E := fun σ cls d H => (∃ b ∈ cs, cls = .ref b) ∧ W cls d σ H) hp hcm (pgenN_call F (hr.mono (by omega)) hg hm hk hb ha hd he hpl) hr (fun σ cls d H ⟨⟨b, hb, e⟩, _⟩ => by rw [e]; exact hcs b hb)
    (fun σ pins H s e s' I cx => passAt tk σ pins H s e s' I (by
      obtain ⟨a, B, H', cls, d, z1, fl, z2, ub, z3, z4, z5, z6⟩ := cx
      exact ⟨a, B, H', cls, d, z1, fl, z2, ub, z3, z4, z5, z6.2⟩)) hs) fun D' σ H ⟨S, h, s, D, m, rs, lk, q⟩ =>
  ⟨S, h, s, _, D.ex, m, rs, lk.ex, q, fun S1 H1 h1 vs ts f1 m1 r1 ⟨l1, q1⟩ => ⟨S1, h1, ts, _, m1, r1, l1, q1,
    fun S2 H2 h2 x cls d f2 m2 r2 ⟨⟨b, hb, e⟩, q2⟩ => ⟨⟨b, hb, r2.1.trans e⟩, lk.ex S2 H2 h2 σ s x cls d (f1.trans f2) m2 (rs.fut (f1.trans f2)) r2 q2⟩⟩⟩
end TL

namespace GB
def part (t b h : Int) : Int := -(-h * t / b)
structure Ok (f r t b : Int) : Prop where
  f1 : 1 ≤ f
  fr : f ≤ r
  r1 : r ≤ 10 ^ 30
  t1 : 1 ≤ t
  t2 : t ≤ 100
  b1 : 1 ≤ b
  b2 : b ≤ 100
def step (f r t b h : Int) : Int := if part t b h < f then f else if part t b h < r then part t b h else r
def E (f r t b : Int) : Nat → Int
  | 0 => 0
  | n + 1 => E f r t b n + step f r t b (E f r t b n)
structure Ramp (f r t b : Int) (n : Nat) : Prop where
  top : r ≤ step f r t b (E f r t b n)
  low : ∀ i, i < n → step f r t b (E f r t b i) < r
  few : n ≤ 20000
theorem part_mono {t b h h' : Int} (ht : 0 ≤ t) (hb : 0 < b) (l : h ≤ h') : part t b h ≤ part t b h' := by
  unfold part
  have h1 : -h' * t ≤ -h * t := Int.mul_le_mul_of_nonneg_right (by omega) ht
  have := Int.ediv_le_ediv hb h1
  omega
theorem part_up {t b h : Int} (hb : 0 < b) : h * t ≤ part t b h * b := by
  unfold part
  have h1 := Int.ediv_mul_le (-h * t) (Int.ne_of_gt hb)
  have h2 : -(-h * t / b) * b = -(-h * t / b * b) := Int.neg_mul ..
  have h3 : -h * t = -(h * t) := Int.neg_mul ..
  rw [h2]
  rw [h3] at h1 ⊢
  omega
section
variable {f r t b : Int} (o : Ok f r t b)
include o
theorem step_ge (h : Int) : f ≤ step f r t b h := by
  have := o.fr
  unfold step
  split
  · omega
  · split <;> omega
theorem step_pos (h : Int) : 1 ≤ step f r t b h := Int.le_trans o.f1 (step_ge o h)
theorem step_le (h : Int) : step f r t b h ≤ r := by
  have := o.fr
  unfold step
  split
  · omega
  · split <;> omega
theorem step_mono {h h' : Int} (l : h ≤ h') : step f r t b h ≤ step f r t b h' := by
  have := part_mono (t := t) (b := b) (by have := o.t1; omega) (by have := o.b1; omega) l
  have := o.fr
  unfold step
  split <;> split <;> (try split) <;> (try split) <;> omega
theorem E_succ (n : Nat) : E f r t b (n + 1) = E f r t b n + step f r t b (E f r t b n) := rfl
theorem E_lt (n : Nat) : E f r t b n < E f r t b (n + 1) := by
  have := step_pos o (E f r t b n)
  rw [E_succ o]; omega
theorem E_mono {i j : Nat} (l : i ≤ j) : E f r t b i ≤ E f r t b j := by
  induction j with
  | zero => have : i = 0 := by omega
            subst this; exact Int.le_refl _
  | succ j ih =>
    by_cases c : i = j + 1
    · subst c; exact Int.le_refl _
    · have := ih (by omega)
      have := E_lt o j
      omega
theorem E_strict {i j : Nat} : E f r t b i < E f r t b j ↔ i < j := by
  constructor
  · intro l
    by_cases c : i < j
    · exact c
    · have := E_mono o (show j ≤ i by omega)
      omega
  · intro l
    have h1 := E_lt o i
    have h2 := E_mono o (show i + 1 ≤ j by omega)
    omega
theorem E_inj {i j : Nat} (e : E f r t b i = E f r t b j) : i = j := by
  have h1 := E_strict o (i := i) (j := j)
  have h2 := E_strict o (i := j) (j := i)
  rw [e] at h1 h2
  omega
theorem E_nonneg (n : Nat) : 0 ≤ E f r t b n := E_mono o (Nat.zero_le n)
theorem E_ge (n : Nat) : (n : Int) ≤ E f r t b n := by
  induction n with
  | zero => exact Int.le_refl _
  | succ n ih => have := E_lt o n; omega
theorem E_le (n : Nat) : E f r t b n ≤ n * r := by
  induction n with
  | zero => show (0 : Int) ≤ 0 * r; omega
  | succ n ih =>
    have := step_le o (E f r t b n)
    rw [E_succ o, Int.natCast_add, Int.add_mul]
    omega
theorem E_top {n : Nat} (h : r ≤ step f r t b (E f r t b n)) : ∀ k : Nat, E f r t b (n + k) = E f r t b n + k * r ∧ step f r t b (E f r t b (n + k)) = r
  | 0 => ⟨by simp, Int.le_antisymm (step_le o _) h⟩
  | k + 1 => by
    obtain ⟨h1, h2⟩ := E_top h k
    have e : E f r t b (n + (k + 1)) = E f r t b n + ((k + 1 : Nat) : Int) * r := by
      show E f r t b (n + k) + step f r t b (E f r t b (n + k)) = _
      rw [h2, h1, Int.natCast_add, Int.add_mul]
      omega
    refine ⟨e, Int.le_antisymm (step_le o _) ?_⟩
    exact Int.le_trans h (step_mono o (E_mono o (by omega)))
theorem low_grow {i : Nat} (h : step f r t b (E f r t b i) < r) : E f r t b i ≤ 100 * step f r t b (E f r t b i) ∧ E f r t b i ≤ 10 ^ 32 := by
  have h0 := E_nonneg o i
  have hb := o.b1
  have hb2 := o.b2
  have ht := o.t1
  have hr := o.r1
  have hf := o.f1
  have hs : part t b (E f r t b i) ≤ step f r t b (E f r t b i) := by
    revert h
    unfold step
    split
    · omega
    · split <;> omega
  have hu := part_up (t := t) (h := E f r t b i) (show 0 < b by omega)
  have h1 : E f r t b i ≤ E f r t b i * t := by
    have := Int.mul_le_mul_of_nonneg_left (c := E f r t b i) ht h0
    omega
  have sp := step_pos o (E f r t b i)
  have h2 : part t b (E f r t b i) * b ≤ step f r t b (E f r t b i) * b := Int.mul_le_mul_of_nonneg_right hs (by omega)
  have h3 : step f r t b (E f r t b i) * b ≤ step f r t b (E f r t b i) * 100 := Int.mul_le_mul_of_nonneg_left hb2 (by omega)
  have e32 : (10 : Int) ^ 32 = 10 ^ 30 * 100 := by decide
  refine ⟨by omega, ?_⟩
  rw [e32]
  omega
theorem low_double {n : Nat} (h : ∀ i, i < n → step f r t b (E f r t b i) < r) (i : Nat) : ∀ k : Nat, i + k ≤ n → 100 * E f r t b i + k * E f r t b i ≤ 100 * E f r t b (i + k)
  | 0, _ => by simp
  | k + 1, hk => by
    have ih := low_double h i k (by omega)
    have g := (low_grow o (h (i + k) (by omega))).1
    have m := E_mono o (show i ≤ i + k by omega)
    show _ ≤ 100 * (E f r t b (i + k) + step f r t b (E f r t b (i + k)))
    rw [Int.natCast_add, Int.add_mul]
    omega
theorem low_pow {n : Nat} (h : ∀ i, i < n → step f r t b (E f r t b i) < r) : ∀ k : Nat, 100 * (k + 1) ≤ n → 100 * 2 ^ k ≤ E f r t b (100 * (k + 1))
  | 0, _ => by
    have := E_ge o 100
    show (100 * 1 : Int) ≤ E f r t b 100
    omega
  | k + 1, hk => by
    have ih := low_pow h k (by omega)
    have d := low_double o h (100 * (k + 1)) 100 (by omega)
    have e : 100 * (k + 1) + 100 = 100 * (k + 1 + 1) := by omega
    rw [e] at d
    have e2 : (2 : Int) ^ (k + 1) = 2 ^ k * 2 := Int.pow_succ ..
    rw [e2]
    generalize (2 : Int) ^ k = z at *
    omega
theorem low_few {n : Nat} (h : ∀ i, i < n → step f r t b (E f r t b i) < r) : n ≤ 20000 := by
  by_cases c : n ≤ 20000
  · exact c
  · have p := low_pow o h 100 (by omega)
    have g := (low_grow o (h (100 * (100 + 1)) (by omega))).2
    have e : ¬ ((100 : Int) * 2 ^ 100 ≤ 10 ^ 32) := by decide
    exact absurd (Int.le_trans p g) e
end

def behS (f r t b : Int) (s : Int × Int × Int) (g : Int) : Int × Int × Int :=
  if 0 < s.1 + g - s.2.1 then (s.1 + g, s.2.1 + (if s.1 + g - s.2.1 > step f r t b s.2.1 then s.1 + g - s.2.1 else step f r t b s.2.1), s.2.2 + 1) else (s.1 + g, s.2.1, s.2.2)
def beh (f r t b : Int) (row : List Int) : Int × Int × Int := row.foldl (behS f r t b) (0, 0, 0)
section
variable {f r t b : Int} (o : Ok f r t b)
include o
theorem step_zero : step f r t b 0 = f := by
  have hp : part t b 0 = 0 := by unfold part; simp
  have := o.f1
  unfold step
  rw [hp, if_pos (by omega)]
theorem beh_size : ∀ (row : List Int) (s : Int × Int × Int), (row.foldl (behS f r t b) s).1 = s.1 + row.sum
  | [], s => by simp
  | g :: row, s => by
    rw [List.foldl_cons, beh_size row, List.sum_cons]
    have : (behS f r t b s g).1 = s.1 + g := by unfold behS; split <;> rfl
    omega
structure Inv (s : Int × Int × Int) (m : Nat) : Prop where
  eq : s.2.2 = m
  ho : E f r t b m ≤ s.2.1
  sz : s.1 ≤ s.2.1
  le : ∀ i, i < m → E f r t b i < s.1
  id : s.2.1 - s.1 ≤ if s.1 = 0 then 0 else if f < s.1 then step f r t b (s.1 - 1) - 1 else f - s.1
  z : 0 ≤ s.1
  z0 : s.2.1 = 0 ∨ f ≤ s.2.1
theorem inv_step {s : Int × Int × Int} {m : Nat} (I : Inv (f := f) (r := r) (t := t) (b := b) s m) {g : Int} (hg : 1 ≤ g) : ∃ m', Inv (f := f) (r := r) (t := t) (b := b) (behS f r t b s g) m' := by
  obtain ⟨a, h, c⟩ := s
  obtain ⟨eq, ho, sz, le, id, z, z0⟩ := I
  have hf := o.f1
  dsimp only at *
  unfold behS
  dsimp only
  by_cases n : 0 < a + g - h
  · rw [if_pos n]
    have h0 : 0 ≤ h := by have := E_nonneg o m; omega
    have sm : step f r t b (E f r t b m) ≤ step f r t b h := step_mono o ho
    have sm2 : step f r t b h ≤ step f r t b (a + g - 1) := step_mono o (by omega)
    have e := E_succ o m
    have sp := step_ge o h
    have sf := step_zero o
    have sp2 := step_pos o (a + g - 1)
    refine ⟨m + 1, ⟨by dsimp only; omega, ?_, ?_, ?_, ?_, by dsimp only; omega, ?_⟩⟩
    · dsimp only; split <;> omega
    · dsimp only; split <;> omega
    · intro i hi
      dsimp only
      have := E_mono o (show i ≤ m by omega)
      omega
    · dsimp only
      rw [if_neg (show ¬ a + g = 0 by omega)]
      by_cases c1 : f < a + g
      · rw [if_pos c1]; split <;> omega
      · rw [if_neg c1]
        have : h = 0 := by omega
        subst this
        rw [sf]
        split <;> omega
    · dsimp only; right; split <;> omega
  · rw [if_neg n]
    refine ⟨m, ⟨eq, ho, by dsimp only; omega, fun i hi => by have := le i hi; dsimp only; omega, ?_, by dsimp only; omega, z0⟩⟩
    dsimp only
    rw [if_neg (show ¬ a + g = 0 by omega)]
    by_cases a0 : a = 0
    · rw [if_pos a0] at id; omega
    · rw [if_neg a0] at id
      by_cases c1 : f < a
      · rw [if_pos c1] at id
        rw [if_pos (by omega)]
        have := step_mono o (show a - 1 ≤ a + g - 1 by omega)
        omega
      · rw [if_neg c1] at id
        by_cases c2 : f < a + g
        · rw [if_pos c2]
          have := step_ge o (a + g - 1)
          omega
        · rw [if_neg c2]; omega
theorem beh_inv : ∀ (row : List Int) (s : Int × Int × Int) (m : Nat), (∀ x ∈ row, 1 ≤ x) → Inv (f := f) (r := r) (t := t) (b := b) s m → ∃ m', Inv (f := f) (r := r) (t := t) (b := b) (row.foldl (behS f r t b) s) m'
  | [], s, m, _, I => ⟨m, I⟩
  | g :: row, s, m, hr, I => by
    obtain ⟨m1, I1⟩ := inv_step o I (hr g List.mem_cons_self)
    exact beh_inv row _ m1 (fun x hx => hr x (List.mem_cons_of_mem _ hx)) I1
theorem inv0 : Inv (f := f) (r := r) (t := t) (b := b) (0, 0, 0) 0 := by
  refine ⟨rfl, Int.le_refl _, Int.le_refl _, fun i hi => absurd hi (Nat.not_lt_zero _), ?_, Int.le_refl _, .inl rfl⟩
  simp
theorem ones_inv : ∀ (k : Nat) (s : Int × Int × Int) (m : Nat), s.2.2 = m → s.2.1 = E f r t b m → s.1 ≤ s.2.1 → (∀ i, i < m → E f r t b i < s.1) →
    ∃ m' : Nat, ((List.replicate k (1 : Int)).foldl (behS f r t b) s).2.2 = m' ∧ ((List.replicate k (1 : Int)).foldl (behS f r t b) s).2.1 = E f r t b m' ∧ s.1 + k ≤ E f r t b m' ∧ ∀ i, i < m' → E f r t b i < s.1 + k
  | 0, s, m, e1, e2, e3, e4 => ⟨m, e1, e2, by have := e2 ▸ e3; show s.1 + (0 : Nat) ≤ _; omega, fun i hi => by have := e4 i hi; show _ < s.1 + ((0 : Nat) : Int); omega⟩
  | k + 1, s, m, e1, e2, e3, e4 => by
    obtain ⟨a, h, c⟩ := s
    dsimp only at *
    rw [List.replicate_succ, List.foldl_cons]
    have sp := step_pos o h
    by_cases n : 0 < a + 1 - h
    · have eb : behS f r t b (a, h, c) 1 = (a + 1, E f r t b (m + 1), c + 1) := by
        unfold behS
        dsimp only
        rw [if_pos n, if_neg (by omega), e2, E_succ o m]
      rw [eb]
      obtain ⟨m', q1, q2, q3, q4⟩ := ones_inv k (a + 1, E f r t b (m + 1), c + 1) (m + 1) (by dsimp only; omega) rfl (by dsimp only; rw [E_succ o m, ← e2]; omega) (fun i hi => by
        have := E_mono o (show i ≤ m by omega)
        dsimp only; omega)
      dsimp only at q3 q4
      exact ⟨m', q1, q2, by omega, fun i hi => by have := q4 i hi; omega⟩
    · have eb : behS f r t b (a, h, c) 1 = (a + 1, h, c) := by
        unfold behS
        dsimp only
        rw [if_neg n]
      rw [eb]
      obtain ⟨m', q1, q2, q3, q4⟩ := ones_inv k (a + 1, h, c) m e1 e2 (by dsimp only; omega) (fun i hi => by
        have := e4 i hi
        dsimp only; omega)
      dsimp only at q3 q4
      exact ⟨m', q1, q2, by omega, fun i hi => by have := q4 i hi; omega⟩
end
section
variable {f r t b : Int} (o : Ok f r t b)
include o
theorem count_low {n : Nat} {k : Int} (hk : k ≤ E f r t b n) : ∃ g, g ≤ n ∧ ∀ i, E f r t b i < k ↔ i < g := by
  induction n with
  | zero => exact ⟨0, Nat.le_refl _, fun i => ⟨fun h => by have := E_mono o (Nat.zero_le i); omega, fun h => absurd h (Nat.not_lt_zero _)⟩⟩
  | succ n ih =>
    by_cases c : k ≤ E f r t b n
    · obtain ⟨g, h1, h2⟩ := ih c
      exact ⟨g, by omega, h2⟩
    · refine ⟨n + 1, Nat.le_refl _, fun i => ⟨fun h => ?_, fun h => ?_⟩⟩
      · exact (E_strict o).mp (Int.lt_of_lt_of_le h hk)
      · have := E_mono o (show i ≤ n by omega)
        omega
theorem count_len {n g : Nat} {k : Int} (hg : g ≤ n + 1) (h : ∀ i, E f r t b i < k ↔ i < g) : ((List.range (n + 1)).filter fun i => decide (E f r t b i < k)).length = g := by
  have e : ((List.range (n + 1)).filter fun i => decide (E f r t b i < k)) = (List.range (n + 1)).filter fun i => decide (i < g) := by
    apply List.filter_congr
    intro i _
    have := h i
    by_cases c : i < g
    · rw [decide_eq_true c, decide_eq_true (this.mpr c)]
    · rw [decide_eq_false c, decide_eq_false (fun z => c (this.mp z))]
  rw [e]
  have : n + 1 = g + (n + 1 - g) := by omega
  rw [this, List.range_add, List.filter_append]
  have e1 : (List.range g).filter (fun i => decide (i < g)) = List.range g := List.filter_eq_self.mpr fun i hi => decide_eq_true (List.mem_range.mp hi)
  have e2 : ((List.range (n + 1 - g)).map fun x => g + x).filter (fun i => decide (i < g)) = [] := by
    rw [List.filter_eq_nil_iff]
    intro i hi
    obtain ⟨j, _, rfl⟩ := List.mem_map.mp hi
    simp
  rw [e1, e2]
  simp
theorem count_top {n : Nat} (R : r ≤ step f r t b (E f r t b n)) {k : Int} (hk : E f r t b n < k) (i : Nat) : E f r t b i < k ↔ i < n + 1 + ((k - E f r t b n - 1) / r).toNat := by
  have hr : 0 < r := by have := o.f1; have := o.fr; omega
  have q0 : 0 ≤ (k - E f r t b n - 1) / r := Int.ediv_nonneg (by omega) (by omega)
  by_cases c : i ≤ n
  · have := E_mono o c
    constructor <;> intro _ <;> omega
  · obtain ⟨j, rfl⟩ : ∃ j, i = n + j := ⟨i - n, by omega⟩
    rw [(E_top o R j).1]
    have key : (j : Int) ≤ (k - E f r t b n - 1) / r ↔ (j : Int) * r ≤ k - E f r t b n - 1 := Int.le_ediv_iff_mul_le hr
    constructor
    · intro h
      have := key.mpr (by omega)
      omega
    · intro h
      have := key.mp (by omega)
      omega
theorem top_end {n : Nat} (R : r ≤ step f r t b (E f r t b n)) {k : Int} (hk : E f r t b n ≤ k) : ((k - E f r t b n) % r = 0 ↔ ∃ i, E f r t b i = k) := by
  have hr : 0 < r := by have := o.f1; have := o.fr; omega
  constructor
  · intro h
    have e := Int.mul_ediv_add_emod (k - E f r t b n) r
    rw [h, Int.add_zero] at e
    have q0 : 0 ≤ (k - E f r t b n) / r := Int.ediv_nonneg (by omega) (by omega)
    obtain ⟨j, ej⟩ := Int.eq_ofNat_of_zero_le q0
    refine ⟨n + j, ?_⟩
    rw [(E_top o R j).1, ← ej, Int.mul_comm]
    omega
  · rintro ⟨i, rfl⟩
    have : n ≤ i := by
      by_cases c : n ≤ i
      · exact c
      · have := (E_strict o).mpr (show i < n by omega)
        omega
    obtain ⟨j, rfl⟩ : ∃ j, i = n + j := ⟨i - n, by omega⟩
    rw [(E_top o R j).1]
    rw [show E f r t b n + j * r - E f r t b n = j * r by omega]
    exact Int.mul_emod_left _ _
end
def cmp (n : Nat) (r : List Int) : Prop := (∀ x ∈ r, 1 ≤ x) ∧ r.sum = n
def nxt (row : List Int) : List (List Int) := [row ++ [1]] ++ (if row = [] then [] else [row.dropLast ++ [row.getLastD 0 + 1]])
theorem cmp_nxt {n : Nat} {rows : List (List Int)} (h : ∀ r, r ∈ rows ↔ cmp n r) : ∀ r, r ∈ rows.flatMap nxt ↔ cmp (n + 1) r := by
  intro r
  rw [List.mem_flatMap]
  constructor
  · rintro ⟨row, hr, hm⟩
    obtain ⟨h1, h2⟩ := (h row).mp hr
    unfold nxt at hm
    rcases List.mem_append.mp hm with z | z
    · have e : r = row ++ [1] := by simpa using z
      subst e
      refine ⟨fun x hx => ?_, by rw [List.sum_append, h2]; simp⟩
      rcases List.mem_append.mp hx with w | w
      · exact h1 x w
      · have : x = 1 := by simpa using w
        omega
    · split at z
      · cases z
      · rename_i ne
        have e : r = row.dropLast ++ [row.getLastD 0 + 1] := by simpa using z
        obtain ⟨d, l, rfl⟩ : ∃ d l, row = d ++ [l] := ⟨row.dropLast, row.getLast ne, (List.dropLast_concat_getLast ne).symm⟩
        simp at e
        subst e
        rw [List.sum_append] at h2
        refine ⟨fun x hx => ?_, by rw [List.sum_append]; simp at h2 ⊢; omega⟩
        rcases List.mem_append.mp hx with w | w
        · exact h1 x (List.mem_append_left _ w)
        · have e : x = l + 1 := by simpa using w
          have := h1 l (by simp)
          omega
  · rintro ⟨h1, h2⟩
    have ne : r ≠ [] := by rintro rfl; simp at h2; omega
    obtain ⟨d, l, rfl⟩ : ∃ d l, r = d ++ [l] := ⟨r.dropLast, r.getLast ne, (List.dropLast_concat_getLast ne).symm⟩
    rw [List.sum_append] at h2
    have hl := h1 l (by simp)
    by_cases c : l = 1
    · subst c
      refine ⟨d, (h d).mpr ⟨fun x hx => h1 x (List.mem_append_left _ hx), by simp at h2; omega⟩, by unfold nxt; simp⟩
    · refine ⟨d ++ [l - 1], (h _).mpr ⟨fun x hx => ?_, by rw [List.sum_append]; simp at h2 ⊢; omega⟩, ?_⟩
      · rcases List.mem_append.mp hx with w | w
        · exact h1 x (List.mem_append_left _ w)
        · have e : x = l - 1 := by simpa using w
          omega
      · unfold nxt
        simp
theorem nxt_len (row : List Int) : (nxt row).length ≤ 2 := by unfold nxt; split <;> simp
theorem flat_len : ∀ rows : List (List Int), (rows.flatMap nxt).length ≤ 2 * rows.length
  | [] => by simp
  | r :: rows => by
    rw [List.flatMap_cons, List.length_append, List.length_cons]
    have := nxt_len r
    have := flat_len rows
    omega
theorem cmp0 (r : List Int) : r ∈ [([] : List Int)] ↔ cmp 0 r := by
  constructor
  · intro h
    have : r = [] := by simpa using h
    subst this
    exact ⟨(fun x hx => nomatch hx), rfl⟩
  · rintro ⟨h1, h2⟩
    cases r with
    | nil => simp
    | cons x r =>
      exfalso
      have hx := h1 x List.mem_cons_self
      have : 0 ≤ r.sum := by
        clear h2
        have hr : ∀ y ∈ r, (1 : Int) ≤ y := fun y hy => h1 y (List.mem_cons_of_mem _ hy)
        clear h1
        induction r with
        | nil => simp
        | cons y r ih =>
          rw [List.sum_cons]
          have := hr y List.mem_cons_self
          have := ih fun z hz => hr z (List.mem_cons_of_mem _ hz)
          omega
      rw [List.sum_cons] at h2
      simp at h2
      omega
noncomputable def G (f r t b k : Int) : Nat := by
  classical
  exact if h : ∃ g : Nat, ∀ i, E f r t b i < k ↔ i < g then h.choose else 0
theorem G_spec {f r t b : Int} (o : Ok f r t b) (k : Int) : ∀ i, E f r t b i < k ↔ i < G f r t b k := by
  have h : ∃ g : Nat, ∀ i, E f r t b i < k ↔ i < g := by
    obtain ⟨g, _, h2⟩ := count_low o (n := k.toNat) (k := k) (by have := E_ge o k.toNat; omega)
    exact ⟨g, h2⟩
  unfold G
  rw [dif_pos h]
  exact h.choose_spec
theorem G_uniq {f r t b : Int} (o : Ok f r t b) {k : Int} {g : Nat} (h : ∀ i, E f r t b i < k ↔ i < g) : g = G f r t b k := by
  have h2 := G_spec o k
  by_cases c : g < G f r t b k
  · have := (h g).mp ((h2 g).mpr c); omega
  · by_cases c2 : G f r t b k < g
    · have := (h2 _).mp ((h _).mpr c2); omega
    · omega
def End (f r t b k : Int) : Prop := ∃ i, E f r t b i = k
section
variable {f r t b : Int} (o : Ok f r t b)
include o
theorem ramp_le {n : Nat} (R : Ramp f r t b n) : E f r t b n ≤ 10 ^ 32 + 10 ^ 30 := by
  cases n with
  | zero => show (0 : Int) ≤ _; decide
  | succ n =>
    have h1 := (low_grow o (R.low n (Nat.lt_succ_self n))).2
    have h2 := step_le o (E f r t b n)
    have h3 := o.r1
    rw [E_succ o]
    omega
theorem end_iff {n : Nat} (R : Ramp f r t b n) (k : Int) : End f r t b k ↔ (k ≤ E f r t b n ∧ ∃ i, i ≤ n ∧ E f r t b i = k) ∨ (E f r t b n < k ∧ (k - E f r t b n) % r = 0) := by
  constructor
  · rintro ⟨i, rfl⟩
    by_cases c : i ≤ n
    · exact .inl ⟨E_mono o c, i, c, rfl⟩
    · have h1 := (E_strict o).mpr (show n < i by omega)
      exact .inr ⟨h1, (top_end o R.top (by omega)).mpr ⟨i, rfl⟩⟩
  · rintro (⟨_, i, _, e⟩ | ⟨h1, h2⟩)
    · exact ⟨i, e⟩
    · exact (top_end o R.top (by omega)).mp h2
end
structure Miss (f r t b f' r' t' b' : Int) (i : Nat) : Prop where
  no : ¬ End f' r' t' b' (E f r t b i)
  yes : ∀ j, j < i → End f' r' t' b' (E f r t b j)
theorem Miss.uniq {f r t b f' r' t' b' : Int} {i j : Nat} (a : Miss f r t b f' r' t' b' i) (c : Miss f r t b f' r' t' b' j) : i = j := by
  by_cases h1 : i < j
  · exact absurd (c.yes i h1) a.no
  · by_cases h2 : j < i
    · exact absurd (a.yes j h2) c.no
    · omega
section
variable {f r t c : Int} (o : Ok f r t 1) (hc : 1 ≤ c)
include o hc
theorem sc_part (h : Int) : part t 1 (c * h) = c * part t 1 h := by
  unfold part
  rw [Int.ediv_one, Int.ediv_one]
  have e1 : -(c * h) * t = c * (-h * t) := by rw [← Int.mul_neg, Int.mul_assoc]
  rw [e1]
  exact (Int.mul_neg _ _).symm
theorem sc_lt (x y : Int) : c * x < c * y ↔ x < y := Int.mul_lt_mul_left (by omega)
theorem sc_step (h : Int) : step (c * f) (c * r) t 1 (c * h) = c * step f r t 1 h := by
  unfold step
  rw [sc_part o hc]
  by_cases c1 : part t 1 h < f
  · rw [if_pos c1, if_pos ((sc_lt o hc _ _).mpr c1)]
  · rw [if_neg c1, if_neg (fun z => c1 ((sc_lt o hc _ _).mp z))]
    by_cases c2 : part t 1 h < r
    · rw [if_pos c2, if_pos ((sc_lt o hc _ _).mpr c2)]
    · rw [if_neg c2, if_neg (fun z => c2 ((sc_lt o hc _ _).mp z))]
theorem sc_E : ∀ n : Nat, E (c * f) (c * r) t 1 n = c * E f r t 1 n
  | 0 => by show (0 : Int) = c * 0; simp
  | n + 1 => by
    show E (c * f) (c * r) t 1 n + step (c * f) (c * r) t 1 (E (c * f) (c * r) t 1 n) = c * (E f r t 1 n + step f r t 1 (E f r t 1 n))
    rw [sc_E n, sc_step o hc, Int.mul_add]
theorem sc_ok (hr : c * r ≤ 10 ^ 30) : Ok (c * f) (c * r) t 1 := by
  refine ⟨?_, Int.mul_le_mul_of_nonneg_left o.fr (by omega), hr, o.t1, o.t2, by decide, by decide⟩
  have := Int.mul_le_mul_of_nonneg_left (c := c) o.f1 (by omega)
  omega
theorem sc_end (k : Int) : End (c * f) (c * r) t 1 k ↔ k % c = 0 ∧ End f r t 1 (k / c) := by
  constructor
  · rintro ⟨i, rfl⟩
    rw [sc_E o hc]
    refine ⟨Int.mul_emod_right _ _, i, ?_⟩
    rw [Int.mul_ediv_cancel_left _ (by omega)]
  · rintro ⟨h1, i, h2⟩
    refine ⟨i, ?_⟩
    rw [sc_E o hc, h2]
    have := Int.mul_ediv_add_emod k c
    omega
theorem sc_end' (k : Int) : End (c * f) (c * r) t 1 (c * k) ↔ End f r t 1 k := by
  rw [sc_end o hc, Int.mul_emod_right, Int.mul_ediv_cancel_left _ (by omega)]
  exact ⟨fun h => h.2, fun h => ⟨rfl, h⟩⟩
theorem sc_G (k : Int) : G (c * f) (c * r) t 1 k = G f r t 1 ((k + c - 1) / c) := by
  refine G_uniq o fun i => ?_
  by_cases hr : True
  · have g : ∀ i, E (c * f) (c * r) t 1 i < k ↔ E f r t 1 i < (k + c - 1) / c := fun i => by
      rw [sc_E o hc]
      have h1 : E f r t 1 i + 1 ≤ (k + c - 1) / c ↔ (E f r t 1 i + 1) * c ≤ k + c - 1 := Int.le_ediv_iff_mul_le (by omega)
      rw [Int.add_mul, Int.one_mul, Int.mul_comm] at h1
      constructor
      · intro z; have := h1.mpr (by omega); omega
      · intro z; have := h1.mp (by omega); omega
    have h : ∃ g : Nat, ∀ i, E (c * f) (c * r) t 1 i < k ↔ i < g := ⟨G f r t 1 ((k + c - 1) / c), fun i => (g i).trans (G_spec o _ i)⟩
    rw [← g i]
    unfold G
    rw [dif_pos h]
    exact h.choose_spec i
  · exact absurd trivial hr
theorem sc_G' (k : Int) : G (c * f) (c * r) t 1 (k * c) = G f r t 1 k := by
  rw [sc_G o hc]
  have : (k * c + c - 1) / c = k := by
    have e : k * c + c - 1 = (c - 1) + k * c := by omega
    rw [e, Int.add_mul_ediv_right _ _ (by omega), Int.ediv_eq_zero_of_lt (by omega) (by omega)]
    omega
  rw [this]
end
theorem sc_miss {f r t f' r' t' c : Int} (o : Ok f r t 1) (o' : Ok f' r' t' 1) (hc : 1 ≤ c) (i : Nat) : Miss (c * f) (c * r) t 1 (c * f') (c * r') t' 1 i ↔ Miss f r t 1 f' r' t' 1 i := by
  constructor
  · rintro ⟨h1, h2⟩
    refine ⟨fun z => h1 ?_, fun j hj => ?_⟩
    · rw [sc_E o hc]; exact (sc_end' o' hc _).mpr z
    · have := h2 j hj
      rw [sc_E o hc] at this
      exact (sc_end' o' hc _).mp this
  · rintro ⟨h1, h2⟩
    refine ⟨fun z => h1 ?_, fun j hj => ?_⟩
    · rw [sc_E o hc] at z; exact (sc_end' o' hc _).mp z
    · rw [sc_E o hc]; exact (sc_end' o' hc _).mpr (h2 j hj)
end GB

set_option maxHeartbeats 4000000
namespace TL
open PySem L2
def topS (i : Nat) : Stmt := PySem.Challenge.pw_grownfiles_k50_hold_ends.main.body.getD i (.Pass ⟨0, 0, 0, 0⟩)
abbrev s_is_integer : Stmt := topS 8
abbrev N_is_integer : List Str := ["thing", "least", "most"]
abbrev s_check_integer : Stmt := topS 9
abbrev N_check_integer : List Str := ["thing", "least", "most"]
abbrev s_ramp : Stmt := topS 13
abbrev N_ramp : List Str := ["book", "found", "roof", "step"]
abbrev s_end_at : Stmt := topS 14
abbrev N_end_at : List Str := ["book", "number", "found"]
abbrev s_end_behind : Stmt := topS 15
abbrev N_end_behind : List Str := ["book", "number"]
abbrev s_ends : Stmt := topS 16
abbrev N_ends : List Str := ["book", "most", "hold"]
abbrev s_is_end_of : Stmt := topS 17
abbrev N_is_end_of : List Str := ["found", "roof", "number"]
abbrev s_is_end : Stmt := topS 18
abbrev N_is_end : List Str := ["book", "number"]
abbrev s_is_share : Stmt := topS 21
abbrev N_is_share : List Str := ["thing"]
abbrev s_part_of : Stmt := topS 22
abbrev N_part_of : List Str := ["share", "hold", "top", "bottom"]
abbrev s_check_parts : Stmt := topS 24
abbrev N_check_parts : List Str := ["first", "roof", "share", "ahead"]
abbrev s_Book___init__ : Stmt := inClass (topS 25) 0
abbrev N_Book___init__ : List Str := ["self", "first", "roof", "share"]
abbrev s_Book_roof : Stmt := inClass (topS 25) 6
abbrev N_Book_roof : List Str := ["self"]
abbrev s_Book_step : Stmt := inClass (topS 25) 10
abbrev N_Book_step : List Str := ["self", "hold"]
abbrev s_Book_given : Stmt := inClass (topS 25) 11
abbrev N_Book_given : List Str := ["self", "hold", "many"]
abbrev s_Book_parts : Stmt := inClass (topS 25) 13
abbrev N_Book_parts : List Str := ["self"]
abbrev s_Book___eq__ : Stmt := inClass (topS 25) 15
abbrev N_Book___eq__ : List Str := ["self", "other"]
abbrev s_law_hand : Stmt := topS 29
abbrev N_law_hand : List Str := ["_law_script", "_law_k", "_law_cell", "_law_seed"]
abbrev s_law_draw : Stmt := topS 30
abbrev N_law_draw : List Str := ["_law_pool", "_law_many", "_law_found"]
abbrev s_law_parts : Stmt := topS 31
abbrev N_law_parts : List Str := ["_law_pool", "_law_first", "_law_roof", "_law_any_pair", "_law_pair"]
abbrev s_law_book : Stmt := topS 32
abbrev N_law_book : List Str := ["_law_parts_here"]
abbrev s_law_step : Stmt := topS 33
abbrev N_law_step : List Str := ["_law_parts_here", "_law_hold", "_law_first", "_law_roof", "_law_pair"]
abbrev s_law_great : Stmt := topS 34
abbrev N_law_great : List Str := ["_law_pool", "_law_first", "_law_more"]
abbrev s_law_ends : Stmt := topS 35
abbrev N_law_ends : List Str := ["_law_parts_here", "_law_many", "_law_found", "_law_turn"]
abbrev s_law_refused : Stmt := topS 36
abbrev N_law_refused : List Str := ["_law_door", "_law_book_here", "_law_thing", "_law_end", "e"]
abbrev s_law : Stmt := topS 37
abbrev N_law : List Str := ["_law_script", "_law_k", "_law_pool", "_law_parts_here", "_law_book_here", "_law_due", "_law_last", "_law_end", "_law_number", "_law_beside", "_law_thing", "_law_door"]
abbrev si_InvalidNumber : Stmt := inClass (topS 4) 0
abbrev si_InvalidBook : Stmt := inClass (topS 3) 0
structure Ad where
  f_is_integer : Addr
  d_is_integer : FuncData
  f_check_integer : Addr
  d_check_integer : FuncData
  f_ramp : Addr
  d_ramp : FuncData
  f_end_at : Addr
  d_end_at : FuncData
  f_end_behind : Addr
  d_end_behind : FuncData
  f_ends : Addr
  d_ends : FuncData
  f_is_end_of : Addr
  d_is_end_of : FuncData
  f_is_end : Addr
  d_is_end : FuncData
  f_is_share : Addr
  d_is_share : FuncData
  f_part_of : Addr
  d_part_of : FuncData
  f_check_parts : Addr
  d_check_parts : FuncData
  f_Book___init__ : Addr
  d_Book___init__ : FuncData
  f_Book_roof : Addr
  d_Book_roof : FuncData
  p_Book_roof : Addr
  f_Book_step : Addr
  d_Book_step : FuncData
  f_Book_given : Addr
  d_Book_given : FuncData
  f_Book_parts : Addr
  d_Book_parts : FuncData
  f_Book___eq__ : Addr
  d_Book___eq__ : FuncData
  f_law_hand : Addr
  d_law_hand : FuncData
  f_law_draw : Addr
  d_law_draw : FuncData
  f_law_parts : Addr
  d_law_parts : FuncData
  f_law_book : Addr
  d_law_book : FuncData
  f_law_step : Addr
  d_law_step : FuncData
  f_law_great : Addr
  d_law_great : FuncData
  f_law_ends : Addr
  d_law_ends : FuncData
  f_law_refused : Addr
  d_law_refused : FuncData
  f_law : Addr
  d_law : FuncData
  c_InvalidNumber : Addr
  c_GrowError : Addr
  c_Book : Addr
  c_InvalidBook : Addr
  i_InvalidNumber : Addr
  e_InvalidNumber : FuncData
  i_InvalidBook : Addr
  e_InvalidBook : FuncData
structure Tx (K : PySem.W.Frag) (mg : Str → Option Value) (a : Ad) : Prop where
  F_is_integer : Fun K "is_integer" "is_integer" s_is_integer a.f_is_integer a.d_is_integer
  b_is_integer : Binds K a.d_is_integer ["thing", "least", "most"] []
  g_is_integer : mg "is_integer" = some (.ref a.f_is_integer)
  F_check_integer : Fun K "check_integer" "check_integer" s_check_integer a.f_check_integer a.d_check_integer
  b_check_integer : Binds K a.d_check_integer ["thing", "least", "most"] []
  g_check_integer : mg "check_integer" = some (.ref a.f_check_integer)
  F_ramp : Fun K "ramp" "ramp" s_ramp a.f_ramp a.d_ramp
  b_ramp : Binds K a.d_ramp ["book"] []
  g_ramp : mg "ramp" = some (.ref a.f_ramp)
  F_end_at : Fun K "end_at" "end_at" s_end_at a.f_end_at a.d_end_at
  b_end_at : Binds K a.d_end_at ["book", "number"] []
  g_end_at : mg "end_at" = some (.ref a.f_end_at)
  F_end_behind : Fun K "end_behind" "end_behind" s_end_behind a.f_end_behind a.d_end_behind
  b_end_behind : Binds K a.d_end_behind ["book", "number"] []
  g_end_behind : mg "end_behind" = some (.ref a.f_end_behind)
  F_ends : Fun K "ends" "ends" s_ends a.f_ends a.d_ends
  b_ends : Binds K a.d_ends ["book", "most"] []
  g_ends : mg "ends" = some (.ref a.f_ends)
  F_is_end_of : Fun K "is_end_of" "is_end_of" s_is_end_of a.f_is_end_of a.d_is_end_of
  b_is_end_of : Binds K a.d_is_end_of ["found", "roof", "number"] []
  g_is_end_of : mg "is_end_of" = some (.ref a.f_is_end_of)
  F_is_end : Fun K "is_end" "is_end" s_is_end a.f_is_end a.d_is_end
  b_is_end : Binds K a.d_is_end ["book", "number"] []
  g_is_end : mg "is_end" = some (.ref a.f_is_end)
  F_is_share : Fun K "is_share" "is_share" s_is_share a.f_is_share a.d_is_share
  b_is_share : Binds K a.d_is_share ["thing"] []
  g_is_share : mg "is_share" = some (.ref a.f_is_share)
  F_part_of : Fun K "part_of" "part_of" s_part_of a.f_part_of a.d_part_of
  b_part_of : Binds K a.d_part_of ["share", "hold"] []
  g_part_of : mg "part_of" = some (.ref a.f_part_of)
  F_check_parts : Fun K "check_parts" "check_parts" s_check_parts a.f_check_parts a.d_check_parts
  b_check_parts : Binds K a.d_check_parts ["first", "roof", "share", "ahead"] []
  g_check_parts : mg "check_parts" = some (.ref a.f_check_parts)
  F_Book___init__ : Fun K "__init__" "Book.__init__" s_Book___init__ a.f_Book___init__ a.d_Book___init__
  kb0_Book___init__ : KBt K a.d_Book___init__ ["self", "first", "roof", "share"] 3 ["share"] (fun ts zs => match ts, zs with | [x0, x1, x2], [k0] => [x0, x1, x2, k0] | _, _ => [])
  me_Book___init__ : Meth K a.c_Book "__init__" a.f_Book___init__
  F_Book_roof : Fun K "roof" "Book.roof" s_Book_roof a.f_Book_roof a.d_Book_roof
  b_Book_roof : Binds K a.d_Book_roof ["self"] []
  pr_Book_roof : PropOf K a.c_Book "roof" a.p_Book_roof a.f_Book_roof
  F_Book_step : Fun K "step" "Book.step" s_Book_step a.f_Book_step a.d_Book_step
  b_Book_step : Binds K a.d_Book_step ["self", "hold"] []
  me_Book_step : Meth K a.c_Book "step" a.f_Book_step
  F_Book_given : Fun K "given" "Book.given" s_Book_given a.f_Book_given a.d_Book_given
  b_Book_given : Binds K a.d_Book_given ["self", "hold"] []
  me_Book_given : Meth K a.c_Book "given" a.f_Book_given
  F_Book_parts : Fun K "parts" "Book.parts" s_Book_parts a.f_Book_parts a.d_Book_parts
  b_Book_parts : Binds K a.d_Book_parts ["self"] []
  me_Book_parts : Meth K a.c_Book "parts" a.f_Book_parts
  F_Book___eq__ : Fun K "__eq__" "Book.__eq__" s_Book___eq__ a.f_Book___eq__ a.d_Book___eq__
  b_Book___eq__ : Binds K a.d_Book___eq__ ["self", "other"] []
  me_Book___eq__ : Meth K a.c_Book "__eq__" a.f_Book___eq__
  F_law_hand : Fun K "_law_hand" "_law_hand" s_law_hand a.f_law_hand a.d_law_hand
  b_law_hand : Binds K a.d_law_hand ["_law_script", "_law_k"] []
  g_law_hand : mg "_law_hand" = some (.ref a.f_law_hand)
  F_law_draw : Fun K "_law_draw" "_law_draw" s_law_draw a.f_law_draw a.d_law_draw
  b_law_draw : Binds K a.d_law_draw ["_law_pool", "_law_many"] []
  g_law_draw : mg "_law_draw" = some (.ref a.f_law_draw)
  F_law_parts : Fun K "_law_parts" "_law_parts" s_law_parts a.f_law_parts a.d_law_parts
  b_law_parts : Binds K a.d_law_parts ["_law_pool"] []
  g_law_parts : mg "_law_parts" = some (.ref a.f_law_parts)
  F_law_book : Fun K "_law_book" "_law_book" s_law_book a.f_law_book a.d_law_book
  b_law_book : Binds K a.d_law_book ["_law_parts_here"] []
  g_law_book : mg "_law_book" = some (.ref a.f_law_book)
  F_law_step : Fun K "_law_step" "_law_step" s_law_step a.f_law_step a.d_law_step
  b_law_step : Binds K a.d_law_step ["_law_parts_here", "_law_hold"] []
  g_law_step : mg "_law_step" = some (.ref a.f_law_step)
  F_law_great : Fun K "_law_great" "_law_great" s_law_great a.f_law_great a.d_law_great
  b_law_great : Binds K a.d_law_great ["_law_pool"] []
  g_law_great : mg "_law_great" = some (.ref a.f_law_great)
  F_law_ends : Fun K "_law_ends" "_law_ends" s_law_ends a.f_law_ends a.d_law_ends
  b_law_ends : Binds K a.d_law_ends ["_law_parts_here", "_law_many"] []
  g_law_ends : mg "_law_ends" = some (.ref a.f_law_ends)
  F_law_refused : Fun K "_law_refused" "_law_refused" s_law_refused a.f_law_refused a.d_law_refused
  b_law_refused : Binds K a.d_law_refused ["_law_door", "_law_book_here", "_law_thing"] []
  g_law_refused : mg "_law_refused" = some (.ref a.f_law_refused)
  F_law : Fun K "law" "law" s_law a.f_law a.d_law
  b_law : Binds K a.d_law ["_law_script"] []
  g_law : mg "law" = some (.ref a.f_law)
  cl_Book : Cls K a.c_Book
  mk_Book : Mk K a.c_Book a.f_Book___init__
  ne_Book : PySem.W.findIn K (.ref a.c_Book) "__ne__" = some (some (.builtin "object.__ne__"))
  so_Book : PySem.W.subIn K (.ref a.c_Book) (.type "object") = some true
  kn_Book : ∀ k : Kd, PySem.W.kitOne K (.type k.nm) (.ref a.c_Book) = some false
  ki_Book_Book : PySem.W.kitOne K (.ref a.c_Book) (.ref a.c_Book) = some true
  ty_Book : TyC K a.c_Book
  na_Book_own_share : NoAttr K a.c_Book "own_share"
  na_Book_own_roof : NoAttr K a.c_Book "own_roof"
  na_Book_own_first : NoAttr K a.c_Book "own_first"
  g_InvalidNumber : mg "InvalidNumber" = some (.ref a.c_InvalidNumber)
  g_GrowError : mg "GrowError" = some (.ref a.c_GrowError)
  g_Book : mg "Book" = some (.ref a.c_Book)
  g_InvalidBook : mg "InvalidBook" = some (.ref a.c_InvalidBook)
  s_InvalidNumber : PySem.W.subIn K (.ref a.c_InvalidNumber) (.type "StopIteration") = some false
  o_InvalidNumber : OexC K a.c_InvalidNumber
  i_InvalidNumber : PySem.W.findIn K (.ref a.c_InvalidNumber) "__init__" = some (some (.ref a.i_InvalidNumber))
  t_InvalidNumber : PySem.W.typeIn K (.ref a.i_InvalidNumber) = some (.type "function")
  n_InvalidNumber : PySem.W.findIn K (.ref a.c_InvalidNumber) "number" = some none
  FI_InvalidNumber : Fun K "__init__" "InvalidNumber.__init__" si_InvalidNumber a.i_InvalidNumber a.e_InvalidNumber
  BI_InvalidNumber : Binds K a.e_InvalidNumber ["self", "number"] []
  x_InvalidNumber : XfC K a.c_InvalidNumber
  q_InvalidNumber : ExcC K a.c_InvalidNumber
  m_InvalidNumber_GrowError : PySem.W.exmOne K (.ref a.c_InvalidNumber) (.ref a.c_GrowError) = some true
  k_InvalidNumber_InvalidNumber : PySem.W.kitOne K (.ref a.c_InvalidNumber) (.ref a.c_InvalidNumber) = some true
  k_InvalidNumber_InvalidBook : PySem.W.kitOne K (.ref a.c_InvalidNumber) (.ref a.c_InvalidBook) = some false
  o_InvalidBook : OexC K a.c_InvalidBook
  i_InvalidBook : PySem.W.findIn K (.ref a.c_InvalidBook) "__init__" = some (some (.ref a.i_InvalidBook))
  t_InvalidBook : PySem.W.typeIn K (.ref a.i_InvalidBook) = some (.type "function")
  n_InvalidBook : PySem.W.findIn K (.ref a.c_InvalidBook) "part" = some none
  FI_InvalidBook : Fun K "__init__" "InvalidBook.__init__" si_InvalidBook a.i_InvalidBook a.e_InvalidBook
  BI_InvalidBook : Binds K a.e_InvalidBook ["self", "part"] []
  x_InvalidBook : XfC K a.c_InvalidBook
  q_InvalidBook : ExcC K a.c_InvalidBook
  m_InvalidBook_GrowError : PySem.W.exmOne K (.ref a.c_InvalidBook) (.ref a.c_GrowError) = some true
  k_InvalidBook_InvalidNumber : PySem.W.kitOne K (.ref a.c_InvalidBook) (.ref a.c_InvalidNumber) = some false
  k_InvalidBook_InvalidBook : PySem.W.kitOne K (.ref a.c_InvalidBook) (.ref a.c_InvalidBook) = some true
  z_bool : mg "bool" = none
  z_int : mg "int" = none
  z_isinstance : mg "isinstance" = none
  z_len : mg "len" = none
  z_max : mg "max" = none
  z_min : mg "min" = none
  z_range : mg "range" = none
  z_repr : mg "repr" = none
  z_tuple : mg "tuple" = none
  c_MOST : ∃ t : Tok, mg "MOST" = some (.int 10000000000000000000000000000000000000000 t)
  c_MOST_GROWTH_checks : ∃ t : Tok, mg "MOST_GROWTH_checks" = some (.int 1000000000000000000000000000000 t)
  c_MOST_GROWTH_numbers : ∃ t : Tok, mg "MOST_GROWTH_numbers" = some (.int 1000000000000000000000000000000 t)
  c_MOST_NUMBER : ∃ t : Tok, mg "MOST_NUMBER" = some (.int 10000000000000000000000000000000000000000 t)
  c_MOST_SHARE : ∃ t : Tok, mg "MOST_SHARE" = some (.int 100 t)
def isInt (x : T) (a b : Int) : Bool := match x with
  | .int i => decide (a ≤ i) && decide (i ≤ b)
  | _ => false
def shT (t b : Int) : T := .tup [.int t, .int b]
def ptT (f r t b : Int) : T := .tup [.int f, .int r, shT t b]
def bkF (f r t b : Int) : List (Str × T) := [("own_first", .int f), ("own_roof", .int r), ("own_share", shT t b)]
def Bk (a : Ad) (h : Hq) (x : T) (f r t b : Int) : Prop := insOf h x = some (a.c_Book, bkF f r t b)
def bk (a : Ad) (f r t b : Int) : T := .ins a.c_Book (bkF f r t b)
def C_is_integer : Con := fun ts h Q _ => ∃ x a b k, ts = [x, .int a, .int b] ∧ kdOf h x = some k ∧ Q (.bl (isInt x a b)) h
def badN (a : Ad) (t : T) : Ex := ⟨.ref a.c_InvalidNumber, [("number", t)]⟩
def C_check_integer (a : Ad) : Con := fun ts h Q E => ∃ x l m, ts = [x, .int l, .int m] ∧ ((∃ i, x = .int i ∧ l ≤ i ∧ i ≤ m ∧ Q .non h) ∨ (∃ k, kdOf h x = some k ∧ isInt x l m = false ∧ E (badN a x) h))
def C_part_of : Con := fun ts h Q _ => ∃ t b k, ts = [shT t b, .int k] ∧ 1 ≤ t ∧ t ≤ 100 ∧ 1 ≤ b ∧ b ≤ 100 ∧ Q (.int (GB.part t b k)) h
def C_Book_given (a : Ad) : Con := fun ts h Q _ => ∃ x f r t b k, ts = [x, .int k] ∧ Bk a h x f r t b ∧ GB.Ok f r t b ∧ Q (.int (GB.step f r t b k)) h
def C_Book_step (a : Ad) : Con := fun ts h Q E => ∃ x f r t b y, ts = [x, y] ∧ Bk a h x f r t b ∧ GB.Ok f r t b ∧ ((∃ k, y = .int k ∧ 0 ≤ k ∧ k ≤ 10 ^ 40 ∧ Q (.int (GB.step f r t b k)) h) ∨ (∃ k, kdOf h y = some k ∧ isInt y 0 (10 ^ 40) = false ∧ E (badN a y) h))
def C_Book_roof (a : Ad) : Con := fun ts h Q _ => ∃ x f r t b, ts = [x] ∧ Bk a h x f r t b ∧ Q (.int r) h
def C_is_share : Con := fun ts h Q _ => ∃ t b, ts = [shT t b] ∧ 1 ≤ t ∧ t ≤ 100 ∧ 1 ≤ b ∧ b ≤ 100 ∧ Q (.bl true) h
def C_check_parts : Con := fun ts h Q _ => ∃ f r t b x, ts = [.int f, .int r, shT t b, x] ∧ GB.Ok f r t b ∧ Q .non h
def C_Book___init__ (a : Ad) : Con := fun ts h Q _ => ∃ p f r t b, ts = [.ref p, .int f, .int r, shT t b] ∧ GB.Ok f r t b ∧ h p = some (.ins a.c_Book []) ∧ Q .non (put h p (.ins a.c_Book (bkF f r t b)))
def C_law_book (a : Ad) : Con := fun ts h Q _ => ∃ f r t b, ts = [ptT f r t b] ∧ GB.Ok f r t b ∧ ∀ p, h p = none → Q (.ref p) (put h p (.ins a.c_Book (bkF f r t b)))
def C_law_parts : Con := fun ts h Q _ => ∃ p, ts = [.ref p] ∧ h p = some .pool ∧ ∀ f r t b, GB.Ok f r t b → f ≤ 7 → r ≤ 107 → t ≤ 10 → b ≤ 10 → Q (ptT f r t b) h
def C_law_great : Con := fun ts h Q _ => ∃ p, ts = [.ref p] ∧ h p = some .pool ∧ ∀ f r t b, GB.Ok f r t b → Q (ptT f r t b) h
def C_law_step : Con := fun ts h Q _ => ∃ f r t b k, ts = [ptT f r t b, .int k] ∧ GB.Ok f r t b ∧ Q (.int (GB.step f r t b k)) h
def endsT (f r t b : Int) (n : Nat) : List T := (List.range (n + 1)).map fun i => T.int (GB.E f r t b i)
def C_ramp (a : Ad) : Con := fun ts h Q _ => ∃ x f r t b, ts = [x] ∧ Bk a h x f r t b ∧ GB.Ok f r t b ∧ ∀ n, GB.Ramp f r t b n → ∀ p, h p = none → Q (.ref p) (put h p (.lst (endsT f r t b n)))
def C_end_at (a : Ad) : Con := fun ts h Q _ => ∃ x f r t b, ∃ n : Nat, ts = [x, .int n] ∧ Bk a h x f r t b ∧ GB.Ok f r t b ∧ (n : Int) ≤ 10 ^ 30 ∧ Q (.int (GB.E f r t b n)) h
def C_end_behind (a : Ad) : Con := fun ts h Q E => ∃ x f r t b y, ts = [x, y] ∧ Bk a h x f r t b ∧ GB.Ok f r t b ∧ ((∃ n : Nat, y = .int n ∧ (n : Int) ≤ 10 ^ 30 ∧ Q (.int (GB.E f r t b n)) h) ∨ (∃ k, kdOf h y = some k ∧ isInt y 0 (10 ^ 30) = false ∧ E (badN a y) h))
def C_is_end_of : Con := fun ts h Q _ => ∃ (xs : List Int) (l r k : Int), ts = [.lst (xs.map .int ++ [.int l]), .int r, .int k] ∧ 0 < r ∧ ∀ v : Bool, (v = true ↔ (k ≤ l ∧ (k ∈ xs ∨ k = l)) ∨ (l < k ∧ (k - l) % r = 0)) → Q (.bl v) h
def C_is_end (a : Ad) : Con := fun ts h Q E => ∃ x f r t b y, ts = [x, y] ∧ Bk a h x f r t b ∧ GB.Ok f r t b ∧ ((∃ k, y = .int k ∧ 0 ≤ k ∧ k ≤ 10 ^ 40 ∧ ∀ v : Bool, (v = true ↔ ∃ i, GB.E f r t b i = k) → Q (.bl v) h) ∨ (∃ k, kdOf h y = some k ∧ isInt y 0 (10 ^ 40) = false ∧ E (badN a y) h))
def C_law_ends : Con := fun ts h Q _ => ∃ f r t b, ∃ n : Nat, ts = [ptT f r t b, .int n] ∧ GB.Ok f r t b ∧ n ≤ 1000 ∧ ∀ p, h p = none → Q (.ref p) (put h p (.lst (endsT f r t b n)))
def C_law : Con := fun ts h Q _ => ∃ ns : List Int, ts = [.scr ns] ∧ ns.length ≤ 63 ∧ ∀ h', Q (.bl true) h'
def C_Book_parts (a : Ad) : Con := fun ts h Q _ => ∃ x f r t b, ts = [x] ∧ Bk a h x f r t b ∧ Q (ptT f r t b) h
def C_Book___eq__ (a : Ad) : Con := fun ts h Q _ => ∃ x y f r t b f' r' t' b', ts = [x, y] ∧ Bk a h x f r t b ∧ Bk a h y f' r' t' b' ∧ Q (.bl (eqT (ptT f r t b) (ptT f' r' t' b'))) h
def C_ends (a : Ad) : ConG := fun ts h Q _ => ∃ x f r t b k, ts = [x, .int k] ∧ Bk a h x f r t b ∧ GB.Ok f r t b ∧ 0 ≤ k ∧ k ≤ 10 ^ 40 ∧ ∃ n : Nat, n ≤ 1000 ∧ GB.E f r t b n ≤ k ∧ k < GB.E f r t b (n + 1) ∧ Q (endsT f r t b n) h
def C0_ends (a : Ad) : ConN := fun ts h E => ∃ x f r t b y, ts = [x, y] ∧ Bk a h x f r t b ∧ GB.Ok f r t b ∧ (∃ kd, kdOf h y = some kd) ∧ isInt y 0 (10 ^ 40) = false ∧ E (badN a y) h
def C_law_refused (a : Ad) : Con := fun ts h Q _ => ∃ x f r t b d y z, ts = [.int d, x, y] ∧ Bk a h x f r t b ∧ GB.Ok f r t b ∧ (∃ kd, kdOf h y = some kd) ∧ (d = 0 ∨ isInt y 0 (10 ^ 40) = false) ∧ isInt y 0 (10 ^ 30) = false ∧ reprX h y = some z ∧ PyData.strOk z = true ∧ Q (.bl true) h
def B_is_integer : SM :=
    (sRet (eAndV (eCB oIsi (aCons (eVar 0) (aCons (eC (.ty "int")) aNil))) (eAndV (eNotV (eCB oIsi (aCons (eVar 0) (aCons (eC (.ty "bool")) aNil)))) (eChain oLe oLe (eVar 1) (eVar 0) (eVar 2)))))
def B_check_integer (K : PySem.W.Frag) (a : Ad) : SM :=
    (sIf (tNotM (tTru (eFrz (eCall 3 C_is_integer (aCons (eVar 0) (aCons (eVar 1) (aCons (eVar 2) aNil))))))) (sRaise a.c_InvalidNumber "number" (aCons (eVar 0) aNil)) sNext)
def B_ramp (K : PySem.W.Frag) (a : Ad) : SM :=
    (sSeq (sAsg (eLst false (aCons (eC (.int 0)) aNil)) (gN 1))
    (sSeq (sAsg (eProp a.c_Book (C_Book_roof a) (eVar 0)) (gN 2))
    (sSeq (sAsg (eFrz (eMeth a.c_Book "step" 2 (C_Book_step a) (eVar 0) (aCons (eC (.int 0)) aNil))) (gN 3))
    (sSeq (sWhile (tOf (eOp oLt (eVar 3) (eVar 2))) (sSeq (sDrop (eBM isLs oApp (eVar 1) (aCons (eOp (oAdd true) (eOp oIx (eVar 1) (eC (.int (-1)))) (eVar 3)) aNil)))
    (sAsg (eFrz (eMeth a.c_Book "step" 2 (C_Book_step a) (eVar 0) (aCons (eOp oIx (eVar 1) (eC (.int (-1)))) aNil))) (gN 3))))
    (sRet (eVar 1))))))
def B_end_at (K : PySem.W.Frag) (a : Ad) : SM :=
    (sSeq (sAsg (eFrz (eCall 1 (C_ramp a) (aCons (eVar 0) aNil))) (gN 2))
    (sSeq (sIf (tOf (eOp oLt (eVar 1) (eCB oLen (aCons (eVar 2) aNil)))) (sRet (eOp oIx (eVar 2) (eVar 1))) sNext)
    (sRet (eOp (oAdd false) (eOp oIx (eVar 2) (eC (.int (-1)))) (eOp (oMul true) (eOp (oAdd true) (eOp oSub (eVar 1) (eCB oLen (aCons (eVar 2) aNil))) (eC (.int 1))) (eProp a.c_Book (C_Book_roof a) (eVar 0)))))))
def B_end_behind (K : PySem.W.Frag) (a : Ad) : SM :=
    (sSeq (sDrop (eFrz (eCall 3 (C_check_integer a) (aCons (eVar 1) (aCons (eC (.int 0)) (aCons (eC (.int 1000000000000000000000000000000)) aNil))))))
    (sRet (eCall 2 (C_end_at a) (aCons (eVar 0) (aCons (eVar 1) aNil)))))
def B_ends (K : PySem.W.Frag) (a : Ad) : GnM :=
    (ySeq (yPlain (sDrop (eFrz (eCall 3 (C_check_integer a) (aCons (eVar 1) (aCons (eC (.int 0)) (aCons (eC (.int 10000000000000000000000000000000000000000)) aNil)))))))
    (ySeq (yPlain (sAsg (eC (.int 0)) (gN 2)))
    (ySeq (yWhile (tOf (eOp oLe (eVar 2) (eVar 1))) (ySeq (yYield (eVar 2))
    (ySeq (yPlain (sAug 2 (eFrz (eMeth a.c_Book "step" 2 (C_Book_step a) (eVar 0) (aCons (eVar 2) aNil))) oAddI))
    yNil)))
    yNil)))
def B_is_end_of : SM :=
    (sSeq (sIf (tOf (eOp oLe (eVar 2) (eOp oIx (eVar 0) (eC (.int (-1)))))) (sRet (eOp (oIn false) (eVar 2) (eVar 0))) sNext)
    (sRet (eOp oEq (eOp oMod (eOp oSub (eVar 2) (eOp oIx (eVar 0) (eC (.int (-1))))) (eVar 1)) (eC (.int 0)))))
def B_is_end (K : PySem.W.Frag) (a : Ad) : SM :=
    (sSeq (sDrop (eFrz (eCall 3 (C_check_integer a) (aCons (eVar 1) (aCons (eC (.int 0)) (aCons (eC (.int 10000000000000000000000000000000000000000)) aNil))))))
    (sRet (eCall 3 C_is_end_of (aCons (eFrz (eCall 1 (C_ramp a) (aCons (eVar 0) aNil))) (aCons (eProp a.c_Book (C_Book_roof a) (eVar 0)) (aCons (eVar 1) aNil))))))
def B_is_share : SM :=
    (sSeq (sIf (tOrM (tNotM (tTru (eCB oIsi (aCons (eVar 0) (aCons (eC (.ty "tuple")) aNil))))) (tOf (eOp oNe (eCB oLen (aCons (eVar 0) aNil)) (eC (.int 2))))) (sRet (eC (.bl false))) sNext)
    (sRet (eAndV (eFrz (eCall 3 C_is_integer (aCons (eOp oIx (eVar 0) (eC (.int 0))) (aCons (eC (.int 1)) (aCons (eC (.int 100)) aNil))))) (eFrz (eCall 3 C_is_integer (aCons (eOp oIx (eVar 0) (eC (.int 1))) (aCons (eC (.int 1)) (aCons (eC (.int 100)) aNil))))))))
def B_part_of : SM :=
    (sSeq (sAsg (eVar 0) (gTup 2 (gCons (gN 2) (gCons (gN 3) gNil))))
    (sRet (eNeg (eOp oDiv (eOp (oMul true) (eNeg (eVar 1)) (eVar 2)) (eVar 3)))))
def B_check_parts (K : PySem.W.Frag) (a : Ad) : SM :=
    (sSeq (sIf (tNotM (tTru (eFrz (eCall 3 C_is_integer (aCons (eVar 0) (aCons (eC (.int 1)) (aCons (eC (.int 1000000000000000000000000000000)) aNil))))))) (sRaise a.c_InvalidBook "part" (aCons (eC (.str "first")) aNil)) sNext)
    (sSeq (sIf (tOrM (tNotM (tTru (eFrz (eCall 3 C_is_integer (aCons (eVar 1) (aCons (eC (.int 1)) (aCons (eC (.int 1000000000000000000000000000000)) aNil))))))) (tOf (eOp oLt (eVar 1) (eVar 0)))) (sRaise a.c_InvalidBook "part" (aCons (eVar 3) aNil)) sNext)
    (sIf (tNotM (tTru (eFrz (eCall 1 C_is_share (aCons (eVar 2) aNil))))) (sRaise a.c_InvalidBook "part" (aCons (eC (.str "share")) aNil)) sNext)))
def B_Book___init__ (K : PySem.W.Frag) (a : Ad) : SM :=
    (sSeq (sDrop (eFrz (eCall 4 C_check_parts (aCons (eVar 1) (aCons (eVar 2) (aCons (eVar 3) (aCons (eC (.str "roof")) aNil)))))))
    (sSeq (sFldT a.c_Book "own_first" (eVar 0) (eVar 1))
    (sSeq (sFldT a.c_Book "own_roof" (eVar 0) (eVar 2))
    (sFldT a.c_Book "own_share" (eVar 0) (eVar 3)))))
def B_Book_roof (K : PySem.W.Frag) (a : Ad) : SM :=
    (sRet (eFld a.c_Book "own_roof" (eVar 0)))
def B_Book_step (K : PySem.W.Frag) (a : Ad) : SM :=
    (sSeq (sDrop (eFrz (eCall 3 (C_check_integer a) (aCons (eVar 1) (aCons (eC (.int 0)) (aCons (eC (.int 10000000000000000000000000000000000000000)) aNil))))))
    (sRet (eMeth a.c_Book "given" 2 (C_Book_given a) (eVar 0) (aCons (eVar 1) aNil))))
def B_Book_given (K : PySem.W.Frag) (a : Ad) : SM :=
    (sSeq (sAsg (eFrz (eCall 2 C_part_of (aCons (eFld a.c_Book "own_share" (eVar 0)) (aCons (eVar 1) aNil)))) (gN 2))
    (sSeq (sIf (tOf (eOp oLt (eVar 2) (eFld a.c_Book "own_first" (eVar 0)))) (sRet (eFld a.c_Book "own_first" (eVar 0))) sNext)
    (sRet (eIf (tOf (eOp oLt (eVar 2) (eFld a.c_Book "own_roof" (eVar 0)))) (eVar 2) (eFld a.c_Book "own_roof" (eVar 0))))))
def B_Book_parts (K : PySem.W.Frag) (a : Ad) : SM :=
    (sRet (eTup (aCons (eFld a.c_Book "own_first" (eVar 0)) (aCons (eFld a.c_Book "own_roof" (eVar 0)) (aCons (eFld a.c_Book "own_share" (eVar 0)) aNil)))))
def B_Book___eq__ (K : PySem.W.Frag) (a : Ad) : SM :=
    (sRet (eAndV (eCB (oIsiC K) (aCons (eVar 1) (aCons (eC (.ref a.c_Book)) aNil))) (eOp oEq (eFrz (eMeth a.c_Book "parts" 1 (C_Book_parts a) (eVar 0) aNil)) (eFrz (eMeth a.c_Book "parts" 1 (C_Book_parts a) (eVar 1) aNil)))))
def B_law_hand : SM :=
    (sSeq (sAsg (eOp oIx (eOp (oAdd true) (eSl true (eVar 0) (mPart (eVar 1)) (mPart (eOp (oAdd true) (eVar 1) (eC (.int 1))))) (eC (.lst [.int 0]))) (eC (.int 0))) (gN 2))
    (sSeq (sAsg (eOp oMod (eOp (oMul true) (eOp (oAdd true) (eOp (oAdd true) (eOp oMod (eCB oInt (aCons (eVar 2) aNil)) (eC (.int 2147483647))) (eOp (oMul true) (eC (.int 7919)) (eVar 1))) (eC (.int 1))) (eC (.int 48271))) (eC (.int 2147483629))) (gN 3))
    (sRet (eLst false (aCons (eOp (oMul true) (eCB oInt (aCons (eOp oGe (eVar 2) (eC (.int (10 ^ 18)))) aNil)) (eVar 2)) (aCons (eVar 3) aNil))))))
def B_law_draw : SM :=
    (sSeq (sIf (tOf (eOp oGt (eOp oIx (eVar 0) (eC (.int 0))) (eC (.int 0)))) (sSeq (sAsg (eOp oMod (eCB oInt (aCons (eOp oIx (eVar 0) (eC (.int 0))) aNil)) (eVar 1)) (gN 2))
    (sSeq (sAsg (eOp oDiv (eOp oIx (eVar 0) (eC (.int 0))) (eVar 1)) (gSub (eVar 0) (eC (.int 0))))
    (sRet (eVar 2)))) sNext)
    (sSeq (sAsg (eOp oMod (eCB oInt (aCons (eOp (oAdd true) (eOp (oMul true) (eOp oIx (eVar 0) (eC (.int 1))) (eC (.int 48271))) (eC (.int 11))) aNil)) (eC (.int 2147483647))) (gSub (eVar 0) (eC (.int 1))))
    (sRet (eOp oMod (eOp oDiv (eOp oMod (eCB oInt (aCons (eOp (oMul true) (eOp oIx (eVar 0) (eC (.int 1))) (eOp oIx (eVar 0) (eC (.int 1)))) aNil)) (eC (.int 2147483629))) (eC (.int 64))) (eVar 1)))))
def B_law_parts : SM :=
    (sSeq (sAsg (eOp oIx (eC (.lst [.int 1, .int 1, .int 2, .int 3, .int 4, .int 7])) (eFrz (eCall 2 CDraw (aCons (eVar 0) (aCons (eC (.int 6)) aNil))))) (gN 1))
    (sSeq (sAsg (eOp (oAdd true) (eVar 1) (eOp oIx (eC (.lst [.int 0, .int 0, .int 1, .int 5, .int 20, .int 100])) (eFrz (eCall 2 CDraw (aCons (eVar 0) (aCons (eC (.int 6)) aNil)))))) (gN 2))
    (sSeq (sAsg (eTup (aCons (eOp (oAdd true) (eC (.int 1)) (eFrz (eCall 2 CDraw (aCons (eVar 0) (aCons (eC (.int 5)) aNil))))) (aCons (eOp (oAdd true) (eC (.int 1)) (eFrz (eCall 2 CDraw (aCons (eVar 0) (aCons (eC (.int 5)) aNil))))) aNil))) (gN 3))
    (sSeq (sAsg (eOp oIx (eLst true (aCons (eC (.tup [.int 1, .int 1])) (aCons (eC (.tup [.int 1, .int 1])) (aCons (eC (.tup [.int 1, .int 2])) (aCons (eC (.tup [.int 2, .int 3])) (aCons (eC (.tup [.int 1, .int 10])) (aCons (eVar 3) aNil))))))) (eFrz (eCall 2 CDraw (aCons (eVar 0) (aCons (eC (.int 6)) aNil))))) (gN 4))
    (sRet (eTup (aCons (eVar 1) (aCons (eVar 2) (aCons (eVar 4) aNil)))))))))
def B_law_book (K : PySem.W.Frag) (a : Ad) : SM :=
    (sRet (eMakeX a.c_Book 2 1 4 (fun ts zs => match ts, zs with | [x0, x1, x2], [k0] => [x0, x1, x2, k0] | _, _ => []) (C_Book___init__ a) (aCons (eOp oIx (eVar 0) (eC (.int 0))) (aCons (eOp oIx (eVar 0) (eC (.int 1))) aNil)) (aCons (eOp oIx (eVar 0) (eC (.int 2))) aNil)))
def B_law_step : SM :=
    (sSeq (sAsg (eVar 0) (gTup 3 (gCons (gN 2) (gCons (gN 3) (gCons (gN 4) gNil)))))
    (sRet (eCB oMin (aCons (eCB oInt (aCons (eVar 3) aNil)) (aCons (eCB oMax (aCons (eCB oInt (aCons (eVar 2) aNil)) (aCons (eOp oDiv (eOp oSub (eOp (oAdd true) (eOp (oMul true) (eVar 1) (eOp oIx (eVar 4) (eC (.int 0)))) (eOp oIx (eVar 4) (eC (.int 1)))) (eC (.int 1))) (eOp oIx (eVar 4) (eC (.int 1)))) aNil))) aNil)))))
def B_law_great : SM :=
    (sSeq (sAsg (eOp (oAdd true) (eC (.int 1)) (eFrz (eCall 2 CDraw (aCons (eVar 0) (aCons (eOp oIx (eC (.lst [.int 10, .int 100, .int (10 ^ 9), .int (10 ^ 30)])) (eFrz (eCall 2 CDraw (aCons (eVar 0) (aCons (eC (.int 4)) aNil))))) aNil))))) (gN 1))
    (sSeq (sAsg (eFrz (eCall 2 CDraw (aCons (eVar 0) (aCons (eOp oIx (eC (.lst [.int 10, .int 1000, .int (10 ^ 12), .int (10 ^ 30)])) (eFrz (eCall 2 CDraw (aCons (eVar 0) (aCons (eC (.int 4)) aNil))))) aNil)))) (gN 2))
    (sRet (eTup (aCons (eVar 1) (aCons (eCB oMin (aCons (eC (.int (10 ^ 30))) (aCons (eOp (oAdd true) (eVar 1) (eVar 2)) aNil))) (aCons (eTup (aCons (eOp (oAdd true) (eC (.int 1)) (eFrz (eCall 2 CDraw (aCons (eVar 0) (aCons (eC (.int 20)) aNil))))) (aCons (eOp (oAdd true) (eC (.int 1)) (eFrz (eCall 2 CDraw (aCons (eVar 0) (aCons (eC (.int 20)) aNil))))) aNil))) aNil)))))))
def B_law_ends : SM :=
    (sSeq (sAsg (eLst false (aCons (eC (.int 0)) aNil)) (gN 2))
    (sSeq (sFor (iRange1 (aCons (eVar 1) aNil)) (gN 3) (sDrop (eBM isLs oApp (eVar 2) (aCons (eOp (oAdd true) (eOp oIx (eVar 2) (eC (.int (-1)))) (eFrz (eCall 2 C_law_step (aCons (eVar 0) (aCons (eOp oIx (eVar 2) (eC (.int (-1)))) aNil))))) aNil))))
    (sRet (eVar 2))))
def B_law_refused (K : PySem.W.Frag) (a : Ad) : SM :=
    (sSeq (sTry K (.ref a.c_GrowError) 4 (sIf (tOf (eOp oEq (eVar 0) (eC (.int 0)))) (sDrop (eFrz (eCall 2 (C_end_behind a) (aCons (eVar 1) (aCons (eVar 2) aNil))))) (sIf (tOf (eOp oEq (eVar 0) (eC (.int 1)))) (sDrop (eFrz (eCall 2 (C_is_end a) (aCons (eVar 1) (aCons (eVar 2) aNil))))) (sForN [a.c_InvalidNumber] 2 (C0_ends a) (aCons (eVar 1) (aCons (eVar 2) aNil))))) (fun ea ecls ed => (sRet (eAndV (eCB (oIsE K ea ecls ed) (aCons (eVar 4) (aCons (eC (.ref a.c_InvalidNumber)) aNil))) (eAndV (eNotV (eCB (oIsE K ea ecls ed) (aCons (eVar 4) (aCons (eC (.ref a.c_InvalidBook)) aNil)))) (eOp oEq (eCB oReprX (aCons (eXf K ea ecls ed "number" (eVar 4)) aNil)) (eCB oReprX (aCons (eVar 2) aNil))))))))
    (sRet (eC (.bl false))))
def B_law (K : PySem.W.Frag) (a : Ad) : SM :=
    (sSeq (sFor (iRange1 (aCons (eCB oMax (aCons (eC (.int 1)) (aCons (eCB oMin (aCons (eCB oLen (aCons (eVar 0) aNil)) (aCons (eC (.int 5)) aNil))) aNil))) aNil)) (gN 1) (sSeq (sAsg (eFrz (eCall 2 CHand (aCons (eVar 0) (aCons (eVar 1) aNil)))) (gN 2))
    (sSeq (sAsg (eIf (tOf (eOp oEq (eFrz (eCall 2 CDraw (aCons (eVar 2) (aCons (eC (.int 2)) aNil)))) (eC (.int 0)))) (eFrz (eCall 1 C_law_parts (aCons (eVar 2) aNil))) (eFrz (eCall 1 C_law_great (aCons (eVar 2) aNil)))) (gN 3))
    (sSeq (sAsg (eFrz (eCall 1 (C_law_book a) (aCons (eVar 3) aNil))) (gN 4))
    (sSeq (sAsg (eFrz (eCall 2 C_law_ends (aCons (eVar 3) (aCons (eFrz (eCall 2 CDraw (aCons (eVar 2) (aCons (eC (.int 61)) aNil)))) aNil)))) (gN 5))
    (sSeq (sAsg (eOp (oAdd true) (eOp oIx (eVar 5) (eC (.int (-1)))) (eFrz (eCall 2 CDraw (aCons (eVar 2) (aCons (eCB oInt (aCons (eFrz (eCall 2 C_law_step (aCons (eVar 3) (aCons (eOp oIx (eVar 5) (eC (.int (-1)))) aNil)))) aNil)) aNil))))) (gN 6))
    (sSeq (sIf (tOf (eOp oNe (eLcG true [a.c_InvalidNumber] 2 (C_ends a) (aCons (eVar 4) (aCons (eVar 6) aNil))) (eVar 5))) (sRet (eC (.bl false))) sNext)
    (sSeq (sFor (iRange1 (aCons (eCB oLen (aCons (eVar 5) aNil)) aNil)) (gN 8) (sSeq (sIf (tOrM (tOf (eOp oNe (eFrz (eCall 2 (C_end_behind a) (aCons (eVar 4) (aCons (eVar 8) aNil)))) (eOp oIx (eVar 5) (eVar 8)))) (tOf (eOp (oIsB true) (eFrz (eCall 2 (C_is_end a) (aCons (eVar 4) (aCons (eOp oIx (eVar 5) (eVar 8)) aNil)))) (eC (.bl true))))) (sRet (eC (.bl false))) sNext)
    (sSeq (sAsg (eOp (oAdd true) (eOp (oAdd true) (eOp oIx (eVar 5) (eVar 8)) (eC (.int 1))) (eFrz (eCall 2 CDraw (aCons (eVar 2) (aCons (eCB oInt (aCons (eFrz (eCall 2 C_law_step (aCons (eVar 3) (aCons (eOp oIx (eVar 5) (eVar 8)) aNil)))) aNil)) aNil))))) (gN 9))
    (sIf (tOf (eOp oNe (eFrz (eCall 2 (C_is_end a) (aCons (eVar 4) (aCons (eVar 9) aNil)))) (eOp oEq (eVar 9) (eOp (oAdd true) (eOp oIx (eVar 5) (eVar 8)) (eFrz (eCall 2 C_law_step (aCons (eVar 3) (aCons (eOp oIx (eVar 5) (eVar 8)) aNil)))))))) (sRet (eC (.bl false))) sNext))))
    (sSeq (sFor (iSeq (eC (.lst [.non, .bl true, .int (0 - 1), .str "1", .tup [.int 1], .int ((10 ^ 40) + 1)]))) (gN 10) (sFor (iRange1 (aCons (eC (.int 3)) aNil)) (gN 11) (sIf (tNotM (tTru (eFrz (eCall 3 (C_law_refused a) (aCons (eVar 11) (aCons (eVar 4) (aCons (eVar 10) aNil))))))) (sRet (eC (.bl false))) sNext)))
    (sIf (tOrM (tNotM (tTru (eFrz (eCall 3 (C_law_refused a) (aCons (eC (.int 0)) (aCons (eVar 4) (aCons (eC (.int ((10 ^ 30) + 1))) aNil))))))) (tOf (eOp (oOwnNe a.c_Book (C_Book___eq__ a)) (eVar 4) (eFrz (eCall 1 (C_law_book a) (aCons (eVar 3) aNil)))))) (sRet (eC (.bl false))) sNext))))))))))
    (sRet (eC (.bl true))))
def B0_ends (K : PySem.W.Frag) (a : Ad) : SM :=
    (sSeq (sDrop (eFrz (eCall 3 (C_check_integer a) (aCons (eVar 1) (aCons (eC (.int 0)) (aCons (eC (.int 10000000000000000000000000000000000000000)) aNil))))))
    (sSeq (sAsg (eC (.int 0)) (gN 2))
    sNever))
end TL

set_option maxHeartbeats 2000000
namespace TL
open PySem L2
local macro_rules | `(tactic| dsimp! [$ls,*]) => `(tactic| (try simp only [$ls,*, lim, oOwn, oIsiC, view_bl, dep_bl, eqT_tt, eqT_ff, eqT_tf, eqT_ft, eDIn, eDGet, eDGet2, eDisp, mPairs, keyTs, eLstR2, oListD, eOwnCall, sPropT, dOf, sDPutT, sLk, eLk, iDict, oDict, eDNew, eDc, keyT, eMakeX, eCallK, eRev, oRepr, eMeth, eProp, eFld, eMake, sRaise, sPar3, ends, startT, eVar, eC, eOp, tOf, eChain, tAndM, tOrM, tNotM, eAndV, eOrV, eNotV, eIf, aNil, aCons, eTup, eLst, eFrz, frzK, oI, oIC, oSub, oMod, oDiv, oPow, oLt, oLe, oGt, oGe, oAddI', oAddL, oMulI', oAdd, oMul, eNeg, oIsN, oNotN, oIx, atK, mNo, mPart, eSl, eCB, oLen, oInt, oSumL, oMax2, oMin2, oMax1, oMin1, oList, oBls, eCall, eBM, eBM0, isLs, oApp, oPop, oExt, lsOf, tTru, sNext, sSeq, sDrop, sRet, sRetN, sIf, sBreak, sCont, sNever, gN, gNil, gCons, gTup, setT, gSub, sAsg, sPar, sAug, oIxL, sAugS, oAddI, sFor, eLc, iSeq, iRange1, iRange2, iRangeW, iEnum, tYes, oIsi, kdOf, oEq, oNe, eqT_int, eqT_nn, eqT_in, eqT_ni,   atI_0, atI_1, atI_2, atI_3, atI_4, atI_5, atI_6, atI_7, atI_8, atI_m1, ixN_0, ixN_1,   kdN_int, kdN_bool, kdN_str, kdN_list, kdN_tuple, isK, view_int, view_non, dep_int, dep_non, cN, cN2, wipeT,   mk_true, mk_false, put_same, put_put,   List.map_cons, List.map_nil, List.length_cons, List.length_nil, List.replicate, List.cons_append, List.nil_append, List.append_nil, List.set_cons_zero, List.set_cons_succ, List.getElem?_cons_zero, List.getElem?_cons_succ, List.getElem?_nil, Nat.reduceAdd, Nat.reduceSub, Nat.reduceLeDiff, Nat.reduceLT, Nat.reduceEqDiff, Option.isSome_some, Option.isSome_none, true_and, and_true, if_true, if_false, Bool.false_eq_true, Bool.not_true, Bool.not_false, reduceCtorEq, Nat.zero_add, Nat.zero_le, decide_eq_true_eq, Bool.not_eq_true', decide_eq_false_iff_not, ite_true, ite_false, Bool.if_false_right, Bool.if_true_left, decide_true, decide_false, Bool.true_or, Bool.or_true, Bool.false_or, Bool.or_false, Bool.true_and, Bool.and_true, Bool.false_and, Bool.and_false, List.length_map, not_true_eq_false, not_false_eq_true, false_and, and_false, bne_self_eq_false, Bool.not_eq_false]))

theorem pl_law_draw : ∀ ts h Q E, ts.length = 2 → CxDraw ts h Q E → B_law_draw (ends Q E) (startT N_law_draw.length ts) h := by
  rintro ts h Q E - ⟨p, n, a, b, rfl, n0, n1, hp, ⟨a0, b0, b1⟩, q⟩
  unfold B_law_draw
  dsimp! [hp]
  split
  · refine ⟨n0, ⟨n0, n1⟩, dn_self (q _ _ _ (Int.emod_nonneg _ (by omega)) (Int.emod_lt_of_pos _ n0) ⟨Int.ediv_nonneg a0 (by omega), b0, b1⟩)⟩
  · have c0 := Int.emod_nonneg (b * 48271 + 11) (show (2147483647 : Int) ≠ 0 by decide)
    have c1 := Int.emod_lt_of_pos (b * 48271 + 11) (show (0 : Int) < 2147483647 by decide)
    generalize (b * 48271 + 11) % 2147483647 = c at *
    refine ⟨.inl (by omega), by decide, .inl (by omega), by decide, ⟨by decide, by decide⟩, n0, dn_self (q _ _ _ (Int.emod_nonneg _ (by omega)) (Int.emod_lt_of_pos _ n0) ⟨a0, c0, c1⟩)⟩
theorem cell_at (ns : List Int) (lo hi : Option Int) : ∃ c, atI (cutT (ns.map T.int) lo hi ++ [T.int 0]) 0 = some (.int c) ∧ (cutT (ns.map T.int) lo hi).length ≤ ns.length := by
  unfold cutT
  rw [← List.map_drop, ← List.map_take]
  generalize e : (List.drop _ ns).take _ = xs
  have hl : xs.length ≤ ns.length := by
    rw [← e, List.length_take, List.length_drop]; omega
  cases xs with
  | nil => exact ⟨0, atI_0, by simp⟩
  | cons x r => exact ⟨x, atI_0, by simpa using hl⟩
theorem pl_law_hand : ∀ ts h Q E, ts.length = 2 → CxHand ts h Q E → B_law_hand (ends Q E) (startT N_law_hand.length ts) h := by
  rintro ts h Q E - ⟨ns, k, rfl, k0, k1, hn, q⟩
  unfold B_law_hand
  obtain ⟨c, hc, hl⟩ := cell_at ns (some k) (some (k + 1))
  dsimp! [hc]
  have e18 : (10 : Int) ^ 18 = 1000000000000000000 := by decide
  have d0 := Int.emod_nonneg c (show (2147483647 : Int) ≠ 0 by decide)
  have d1 := Int.emod_lt_of_pos c (show (0 : Int) < 2147483647 by decide)
  generalize c % 2147483647 = d at *
  have s0 := Int.emod_nonneg ((d + 7919 * k + 1) * 48271) (show (2147483629 : Int) ≠ 0 by decide)
  have s1 := Int.emod_lt_of_pos ((d + 7919 * k + 1) * 48271) (show (0 : Int) < 2147483629 by decide)
  refine ⟨by omega, by decide, .inl (by decide), .inl (by omega), by decide, .inl (by split <;> decide), fun p hp => dn_self (q _ _ ⟨?_, s0, by omega⟩ p hp)⟩
  rw [e18]
  split <;> omega
theorem pl_is_integer : ∀ ts h Q E, ts.length = 3 → C_is_integer ts h Q E → B_is_integer (ends Q E) (startT N_is_integer.length ts) h := by
  rintro ts h Q E - ⟨x, a, b, k, rfl, hk, q⟩
  unfold B_is_integer
  cases x with
  | int i =>
    dsimp! [isInt]
    simp only [isInt] at q
    by_cases c : a ≤ i
    · simp [c] at q ⊢; exact dn_self q
    · simp [c] at q ⊢; exact dn_self q
  | ref p =>
    simp only [kdOf] at hk
    split at hk
    · rename_i ts e
      dsimp! [e]
      exact dn_self q
    · cases hk
  | non => dsimp! [isInt]; exact dn_self q
  | bl b => dsimp! [isInt]; exact dn_self q
  | str z => dsimp! [isInt]; exact dn_self q
  | tup z => dsimp! [isInt]; exact dn_self q
  | lst z => dsimp! [isInt]; exact dn_self q
  | ins _ _ => cases hk
  | ty _ => cases hk
  | scr _ => cases hk
  | exc _ _ _ _ => cases hk
  | xob _ _ => cases hk
theorem sum_le {m : Int} : ∀ cs : List Int, (∀ c ∈ cs, c ≤ m) → cs.sum ≤ m * cs.length
  | [], _ => by simp
  | c :: cs, h => by
    have h1 := h c List.mem_cons_self
    have h2 := sum_le cs fun x hx => h x (List.mem_cons_of_mem _ hx)
    rw [List.sum_cons, List.length_cons]
    have : m * ((cs.length + 1 : Nat) : Int) = m * cs.length + m := by
      rw [Int.natCast_add, Int.mul_add]; omega
    omega
theorem getD_of {l : List Int} {i : Nat} {c : Int} (h : l[i]? = some c) : l.getD i 0 = c := by rw [List.getD_eq_getElem?_getD, h]; rfl
theorem ci_cln (n : Nat) (xs : List Int) : cln (n + 2) (.lst (xs.map T.int)) = true := by
  show (xs.map T.int).all (cln (n + 1)) = true
  rw [List.all_eq_true]
  intro t ht
  obtain ⟨i, _, rfl⟩ := List.mem_map.mp ht
  rfl
theorem eqT_refl {n : Nat} {x : T} (h : cln n x = true) : eqT x x = true := (eqT_iff n x x h h).mpr rfl
theorem lcK_any {fl : Bool} {ts : List T} {stay : Hq → Prop} {g : T → Sl → Option Sl} {el : EM} {s : Sl} {h : Hq} {Q : TK} (P : T → Prop) (hst : stay h) (hl : ts.length ≤ 1000000)
    (hs : ∀ t ∈ ts, ∀ R : TK, (∀ y, P y → R y h) → match g t s with
      | some s2 => el s2 h R E0
      | none => False) (hQ : ∀ ys : List T, ys.length = ts.length → (∀ y ∈ ys, P y) → mk fl ys h Q) : LcK fl ts stay g tYes el s h Q := by
  refine ⟨fun i acc h' => acc.length = i ∧ (∀ y ∈ acc, P y) ∧ h' = h, ⟨rfl, (fun _ z => nomatch z), rfl⟩, ?_⟩
  rintro i acc h' hi ⟨ha, hp, rfl⟩
  refine ⟨hst, ?_⟩
  cases e : ts[i]? with
  | none =>
    have := List.getElem?_eq_none_iff.mp e
    exact hQ acc (by omega) hp
  | some t =>
    have hi' : i < ts.length := (List.getElem?_eq_some_iff.mp e).1
    refine ⟨show acc.length < 1000000 by omega, ?_⟩
    have q := hs t (List.mem_of_getElem? e) (fun y h4 => (acc ++ [y]).length = i + 1 ∧ (∀ z ∈ acc ++ [y], P z) ∧ h4 = h') (fun y hy => ⟨by simp [ha], fun z hz => by
      rcases List.mem_append.mp hz with w | w
      · exact hp z w
      · have : z = y := by simpa using w
        rw [this]; exact hy, rfl⟩)
    cases es : g t s with
    | none => rw [es] at q; exact q.elim
    | some s2 => rw [es] at q; exact iteT (B := acc.length = i + 1 ∧ (∀ y ∈ acc, P y) ∧ h' = h') q
theorem ints_of {m : Int} : ∀ {ys : List T}, (∀ y ∈ ys, ∃ c : Int, y = .int c ∧ 0 ≤ c ∧ c ≤ m) → ∃ cs : List Int, ys = cs.map T.int ∧ ∀ c ∈ cs, 0 ≤ c ∧ c ≤ m
  | [], _ => ⟨[], rfl, fun _ z => nomatch z⟩
  | y :: ys, h => by
    obtain ⟨c, rfl, c0, c1⟩ := h y List.mem_cons_self
    obtain ⟨cs, rfl, hc⟩ := ints_of (ys := ys) fun z hz => h z (List.mem_cons_of_mem _ hz)
    refine ⟨c :: cs, rfl, fun x hx => ?_⟩
    rcases List.mem_cons.mp hx with rfl | z
    · exact ⟨c0, c1⟩
    · exact hc x z
theorem ints_map {stay : Hq → Prop} {s : Sl} {h : Hq} {Q : TK} {i : Nat} {cs : List Int} {own : List Nat} (hst : stay h) (hl : cs.length ≤ 1000000) (hg : ∀ c : Int, ∃ s2 : Sl, cN i own (.int c) s = some s2 ∧ s2[i]? = some (some (.int c))) (q : Q (.lst (cs.map T.int)) h) : LcK true (cs.map T.int) stay (cN i own) tYes (eCB oInt (aCons (eVar i) aNil)) s h Q := by
  refine lcK_mA (fun c => T.int c) hst hl (fun c hc R r => ?_) (by rw [mk_true]; exact q)
  obtain ⟨s2, e1, e2⟩ := hg c
  rw [e1]
  show eCB oInt (aCons (eVar i) aNil) s2 h R E0
  dsimp! [e2]
  exact r
theorem seq_gen {a b : SM} {D : En} {s : Sl} {h : Hq} (h1 : ∀ N : SK, (∀ s h, b D s h → N s h) → a { nx := N, rt := D.rt, bk := D.bk, ct := D.ct, ex := D.ex } s h) : sSeq a b D s h := h1 _ fun _ _ q => q
theorem sIf_gen {c : TM} {x y : SM} {D : En} {s : Sl} {h : Hq} (h1 : ∀ N1 N2 : SK, (∀ s h, x D s h → N1 s h) → (∀ s h, y D s h → N2 s h) → c s h (fun d h1 => if d = true then N1 s h1 else N2 s h1) D.ex) : sIf c x y D s h := h1 _ _ (fun _ _ q => q) (fun _ _ q => q)
theorem cells (ns : List Int) (m : Int) (h1 : 1 ≤ m) (h2 : m ≤ 63) : ∃ k : Nat, (k : Int) ≤ m ∧ (if (if m < (ns.length : Int) then m else (ns.length : Int)) > 1 then (if m < (ns.length : Int) then m else (ns.length : Int)) else 1) = (k : Int) := by
  refine ⟨(if (if m < (ns.length : Int) then m else (ns.length : Int)) > 1 then (if m < (ns.length : Int) then m else (ns.length : Int)) else 1).toNat, ?_, ?_⟩ <;> (split <;> split <;> omega)
theorem gN_go {i : Nat} {t : T} {s : Sl} {h : Hq} {Q : SK} {E : EX} (q : Q (s.set i (some t)) h) : gN i t s h Q E := q
theorem cut_lo (xs : List T) (a : Nat) (h : a ≤ xs.length) : cutT xs none (some (a : Int)) = xs.take a := by
  unfold cutT
  rw [HT.sIx_none, HT.sIx_nat, Nat.min_eq_left (by omega), Nat.sub_zero, List.drop_zero]
theorem cut_hi (xs : List T) (a : Nat) (h : a < xs.length) : cutT xs (some ((a : Int) + 1)) none = xs.drop (a + 1) := by
  unfold cutT
  rw [HT.sIx_none, show ((a : Int) + 1) = ((a + 1 : Nat) : Int) by omega, HT.sIx_nat, Nat.min_eq_left (by omega)]
  rw [List.take_of_length_le (l := xs.drop (a + 1)) (by rw [List.length_drop]; omega)]
theorem getD_le {cs : List Int} {m : Int} (h0 : 0 ≤ m) (h : ∀ y ∈ cs, y ≤ m) (i : Nat) : cs.getD i 0 ≤ m := by
  rw [List.getD_eq_getElem?_getD]
  cases z : cs[i]? with
  | none => exact h0
  | some c => exact h c (List.mem_of_getElem? z)
theorem lookup_one (f : Str) (t : T) : List.lookup f [(f, t)] = some t := by simp [List.lookup]
theorem lk_first {f r t b : Int} : List.lookup ("own_first" : Str) (bkF f r t b) = some (.int f) := rfl
theorem lk_roof {f r t b : Int} : List.lookup ("own_roof" : Str) (bkF f r t b) = some (.int r) := rfl
theorem lk_share {f r t b : Int} : List.lookup ("own_share" : Str) (bkF f r t b) = some (shT t b) := rfl
theorem lk_given {f r t b : Int} : List.lookup ("given" : Str) (bkF f r t b) = none := rfl
theorem lk_step {f r t b : Int} : List.lookup ("step" : Str) (bkF f r t b) = none := rfl
theorem p30 : (1000000000000000000000000000000 : Int) = 10 ^ 30 := by decide
theorem p40 : (10000000000000000000000000000000000000000 : Int) = 10 ^ 40 := by decide
section
variable {K : PySem.W.Frag} {mg : Str → Option Value} {a : Ad}
theorem pl_check_integer (Z : Tx K mg a) : ∀ ts h Q E, ts.length = 3 → C_check_integer a ts h Q E → B_check_integer K a (ends Q E) (startT N_check_integer.length ts) h := by
  rintro ts h Q E - ⟨x, l, m, rfl, hh⟩
  unfold B_check_integer
  rcases hh with ⟨i, rfl, h1, h2, q⟩ | ⟨k, hk, hi, q⟩
  · dsimp! [C_is_integer]
    refine ⟨.int i, l, m, .int, rfl, rfl, ?_⟩
    dsimp! [isInt, h1, h2]
    exact dn_self q
  · dsimp! [C_is_integer]
    refine ⟨x, l, m, k, rfl, hk, ?_⟩
    rw [hi]
    dsimp! [sRaise]
    exact dnX_self q
theorem pl_part_of : ∀ ts h Q E, ts.length = 2 → C_part_of ts h Q E → B_part_of (ends Q E) (startT N_part_of.length ts) h := by
  rintro ts h Q E - ⟨t, b, k, rfl, t1, t2, b1, b2, q⟩
  unfold B_part_of
  dsimp! [shT]
  exact ⟨.inr (.inl (by omega)), ⟨by omega, by omega⟩, dn_self q⟩
theorem Bk.put {h : Hq} {x : T} {f r t b : Int} (hx : Bk a h x f r t b) {p : Addr} {o : O} (np : h p = none) : Bk a (put h p o) x f r t b := by
  unfold Bk insOf at *
  cases x <;> try exact hx
  rename_i q
  dsimp only at *
  rw [put_ne (fun z => by rw [z, np] at hx; cases hx)]
  exact hx
theorem pl_Book_given (Z : Tx K mg a) : ∀ ts h Q E, ts.length = 2 → C_Book_given a ts h Q E → B_Book_given K a (ends Q E) (startT N_Book_given.length ts) h := by
  rintro ts h Q E - ⟨x, f, r, t, b, k, rfl, hx, o, q⟩
  unfold B_Book_given
  unfold Bk at hx
  have o' := o
  obtain ⟨f1, fr, r1, t1, t2, b1, b2⟩ := o'
  dsimp! [eFld, hx, lk_share, C_part_of]
  refine ⟨t, b, k, rfl, t1, t2, b1, b2, ?_⟩
  unfold GB.step at q
  dsimp! [hx, lk_first, lk_roof]
  by_cases c1 : GB.part t b k < f
  · rw [if_pos c1] at q
    dsimp! [c1]
    exact dn_self q
  · rw [if_neg c1] at q
    by_cases c2 : GB.part t b k < r
    · rw [if_pos c2] at q
      dsimp! [c1, c2]
      exact dn_self q
    · rw [if_neg c2] at q
      dsimp! [c1, c2]
      exact dn_self q
theorem pl_Book_step (Z : Tx K mg a) : ∀ ts h Q E, ts.length = 2 → C_Book_step a ts h Q E → B_Book_step K a (ends Q E) (startT N_Book_step.length ts) h := by
  rintro ts h Q E - ⟨x, f, r, t, b, y, rfl, hx, o, hh⟩
  unfold B_Book_step
  have hx' := hx
  unfold Bk at hx
  dsimp! [C_check_integer, eMeth, hx, lk_given, C_Book_given, p40]
  rcases hh with ⟨k, rfl, k0, k1, q⟩ | ⟨k, hk, hi, q⟩
  · exact ⟨_, _, _, rfl, .inl ⟨k, rfl, k0, k1, x, f, r, t, b, k, rfl, hx', o, dn_self q⟩⟩
  · exact ⟨_, _, _, rfl, .inr ⟨k, hk, hi, dnX_self q⟩⟩
theorem pl_Book_roof (Z : Tx K mg a) : ∀ ts h Q E, ts.length = 1 → C_Book_roof a ts h Q E → B_Book_roof K a (ends Q E) (startT N_Book_roof.length ts) h := by
  rintro ts h Q E - ⟨x, f, r, t, b, rfl, hx, q⟩
  unfold B_Book_roof
  unfold Bk at hx
  dsimp! [eFld, hx, lk_roof]
  exact dn_self q
theorem pl_is_share : ∀ ts h Q E, ts.length = 1 → C_is_share ts h Q E → B_is_share (ends Q E) (startT N_is_share.length ts) h := by
  rintro ts h Q E - ⟨t, b, rfl, t1, t2, b1, b2, q⟩
  unfold B_is_share
  have e2 : ((2 : Nat) : Int) = 2 := rfl
  dsimp! [shT, C_is_integer, e2]
  refine ⟨_, 1, 100, .int, rfl, rfl, ?_⟩
  dsimp! [isInt, t1, t2]
  refine ⟨_, 1, 100, .int, rfl, rfl, ?_⟩
  dsimp! [isInt, b1, b2]
  exact dn_self q
theorem pl_check_parts (Z : Tx K mg a) : ∀ ts h Q E, ts.length = 4 → C_check_parts ts h Q E → B_check_parts K a (ends Q E) (startT N_check_parts.length ts) h := by
  rintro ts h Q E - ⟨f, r, t, b, x, rfl, o, q⟩
  unfold B_check_parts
  obtain ⟨f1, fr, r1, t1, t2, b1, b2⟩ := o
  have f2 : f ≤ 10 ^ 30 := by omega
  have r0 : 1 ≤ r := by omega
  have nr : ¬ r < f := by omega
  dsimp! [C_is_integer, p30]
  refine ⟨_, 1, _, .int, rfl, rfl, ?_⟩
  dsimp! [isInt, f1, f2]
  refine ⟨_, 1, _, .int, rfl, rfl, ?_⟩
  dsimp! [isInt, r0, r1, nr, C_is_share]
  exact ⟨t, b, rfl, t1, t2, b1, b2, dn_self q⟩
theorem pt1 {x : T} : putT ("own_first" : Str) x [] = [(("own_first" : Str), x)] := rfl
theorem pt2 {x y : T} : putT ("own_roof" : Str) y [(("own_first" : Str), x)] = [(("own_first" : Str), x), (("own_roof" : Str), y)] := rfl
theorem pt3 {x y z : T} : putT ("own_share" : Str) z [(("own_first" : Str), x), (("own_roof" : Str), y)] = [(("own_first" : Str), x), (("own_roof" : Str), y), (("own_share" : Str), z)] := rfl
theorem pl_Book___init__ (Z : Tx K mg a) : ∀ ts h Q E, ts.length = 4 → C_Book___init__ a ts h Q E → B_Book___init__ K a (ends Q E) (startT N_Book___init__.length ts) h := by
  rintro ts h Q E - ⟨p, f, r, t, b, rfl, o, hp, q⟩
  unfold B_Book___init__
  dsimp! [C_check_parts]
  refine ⟨f, r, t, b, _, rfl, o, ?_⟩
  dsimp! [sFldT, hp, pt1, pt2, pt3]
  exact dn_self q
theorem pl_law_book (Z : Tx K mg a) : ∀ ts h Q E, ts.length = 1 → C_law_book a ts h Q E → B_law_book K a (ends Q E) (startT N_law_book.length ts) h := by
  rintro ts h Q E - ⟨f, r, t, b, rfl, o, q⟩
  unfold B_law_book
  dsimp! [ptT, C_Book___init__]
  intro p np
  refine ⟨p, f, r, t, b, rfl, o, put_same, ?_⟩
  rw [put_put]
  exact dn_self (q p np)
theorem pl_law_parts : ∀ ts h Q E, ts.length = 1 → C_law_parts ts h Q E → B_law_parts (ends Q E) (startT N_law_parts.length ts) h := by
  rintro ts h Q E - ⟨p, rfl, hp, q⟩
  unfold B_law_parts
  dsimp! [CDraw]
  refine ⟨p, 6, rfl, by decide, by decide, hp, fun r1 r10 r11 => ?_⟩
  have c1 : ∃ f : Int, atI ([.int 1, .int 1, .int 2, .int 3, .int 4, .int 7] : List T) r1 = some (T.int f) ∧ 1 ≤ f ∧ f ≤ 7 := by
    have : r1 = 0 ∨ r1 = 1 ∨ r1 = 2 ∨ r1 = 3 ∨ r1 = 4 ∨ r1 = 5 := by omega
    rcases this with rfl | rfl | rfl | rfl | rfl | rfl <;> exact ⟨_, rfl, by decide, by decide⟩
  obtain ⟨f, e1, f1, f7⟩ := c1
  dsimp! [e1]
  refine ⟨p, 6, rfl, by decide, by decide, hp, fun r2 r20 r21 => ?_⟩
  have c2 : ∃ d : Int, atI ([.int 0, .int 0, .int 1, .int 5, .int 20, .int 100] : List T) r2 = some (T.int d) ∧ 0 ≤ d ∧ d ≤ 100 := by
    have : r2 = 0 ∨ r2 = 1 ∨ r2 = 2 ∨ r2 = 3 ∨ r2 = 4 ∨ r2 = 5 := by omega
    rcases this with rfl | rfl | rfl | rfl | rfl | rfl <;> exact ⟨_, rfl, by decide, by decide⟩
  obtain ⟨d, e2, d1, d7⟩ := c2
  dsimp! [e2]
  refine ⟨p, 5, rfl, by decide, by decide, hp, fun r3 r30 r31 => ?_⟩
  refine ⟨p, 5, rfl, by decide, by decide, hp, fun r4 r40 r41 => ?_⟩
  refine ⟨p, 6, rfl, by decide, by decide, hp, fun r5 r50 r51 => ?_⟩
  have c3 : ∃ t b : Int, atI ([.tup [.int 1, .int 1], .tup [.int 1, .int 1], .tup [.int 1, .int 2], .tup [.int 2, .int 3], .tup [.int 1, .int 10], .tup [.int (1 + r3), .int (1 + r4)]] : List T) r5 = some (shT t b) ∧ 1 ≤ t ∧ t ≤ 10 ∧ 1 ≤ b ∧ b ≤ 10 := by
    have : r5 = 0 ∨ r5 = 1 ∨ r5 = 2 ∨ r5 = 3 ∨ r5 = 4 ∨ r5 = 5 := by omega
    rcases this with rfl | rfl | rfl | rfl | rfl | rfl
    · exact ⟨_, _, rfl, by decide, by decide, by decide, by decide⟩
    · exact ⟨_, _, rfl, by decide, by decide, by decide, by decide⟩
    · exact ⟨_, _, rfl, by decide, by decide, by decide, by decide⟩
    · exact ⟨_, _, rfl, by decide, by decide, by decide, by decide⟩
    · exact ⟨_, _, rfl, by decide, by decide, by decide, by decide⟩
    · exact ⟨_, _, rfl, by omega, by omega, by omega, by omega⟩
  obtain ⟨t, b, e3, t1, t2, b1, b2⟩ := c3
  dsimp! [e3]
  refine dn_self (q f (f + d) t b ⟨f1, by omega, ?_, t1, by omega, b1, by omega⟩ f7 (by omega) t2 b2)
  exact Int.le_trans (show f + d ≤ 107 by omega) (by decide)
theorem ceil_part (k t b : Int) (hb : 0 < b) : (k * t + b - 1) / b = GB.part t b k := by
  unfold GB.part
  have h1 := Int.mul_ediv_add_emod (k * t + b - 1) b
  have h2 := Int.emod_nonneg (k * t + b - 1) (Int.ne_of_gt hb)
  have h3 := Int.emod_lt_of_pos (k * t + b - 1) hb
  have g1 := Int.mul_ediv_add_emod (-k * t) b
  have g2 := Int.emod_nonneg (-k * t) (Int.ne_of_gt hb)
  have g3 := Int.emod_lt_of_pos (-k * t) hb
  have en : -k * t = -(k * t) := Int.neg_mul ..
  rw [en] at g1 g2 g3 ⊢
  generalize (k * t + b - 1) / b = A at *
  generalize (-(k * t)) / b = B at *
  generalize k * t = m at *
  have e : b * (A + B) = b * A + b * B := Int.mul_add ..
  have : A + B < 1 := by
    rcases Int.lt_or_le (A + B) 1 with c | c
    · exact c
    · have := Int.mul_le_mul_of_nonneg_left (c := b) c (by omega)
      omega
  have : -1 < A + B := by
    rcases Int.lt_or_le (-1) (A + B) with c | c
    · exact c
    · have := Int.mul_le_mul_of_nonneg_left (c := b) c (by omega)
      omega
  omega
theorem pl_law_step : ∀ ts h Q E, ts.length = 2 → C_law_step ts h Q E → B_law_step (ends Q E) (startT N_law_step.length ts) h := by
  rintro ts h Q E - ⟨f, r, t, b, k, rfl, o, q⟩
  unfold B_law_step
  obtain ⟨f1, fr, r1, t1, t2, b1, b2⟩ := o
  dsimp! [ptT, shT]
  refine ⟨.inr (.inl (by omega)), ⟨by omega, Int.lt_of_le_of_lt b2 (by decide)⟩, ?_⟩
  rw [ceil_part k t b (by omega)]
  have e : (if (if GB.part t b k > f then GB.part t b k else f) < r then (if GB.part t b k > f then GB.part t b k else f) else r) = GB.step f r t b k := by
    clear r1 q
    unfold GB.step
    generalize GB.part t b k = P
    repeat' split
    all_goals omega
  rw [e]
  exact dn_self q
theorem endsT_succ (f r t b : Int) (n : Nat) : endsT f r t b (n + 1) = endsT f r t b n ++ [.int (GB.E f r t b (n + 1))] := by
  unfold endsT
  rw [List.range_succ, List.map_append]
  rfl
theorem endsT_last (f r t b : Int) (n : Nat) : atI (endsT f r t b n) (-1) = some (.int (GB.E f r t b n)) := by
  unfold endsT
  rw [List.range_succ, List.map_append]
  exact atI_m1
theorem endsT_len (f r t b : Int) (n : Nat) : (endsT f r t b n).length = n + 1 := by unfold endsT; simp
theorem pl_ramp (Z : Tx K mg a) : ∀ ts h Q E, ts.length = 1 → C_ramp a ts h Q E → B_ramp K a (ends Q E) (startT N_ramp.length ts) h := by
  rintro ts h Q E - ⟨x, f, r, t, b, rfl, hx, o, q⟩
  unfold B_ramp
  dsimp! [eProp, eMeth]
  intro p np
  have hb : ∀ o, Bk a (put h p o) x f r t b := fun o => hx.put np
  have hi : ∀ o, insOf (put h p o) x = some (a.c_Book, bkF f r t b) := hb
  dsimp! [hi, lk_step, C_Book_roof, C_Book_step]
  refine ⟨x, f, r, t, b, rfl, hb _, ?_⟩
  dsimp! [hi, lk_step]
  refine ⟨x, f, r, t, b, _, rfl, hb _, o, .inl ⟨0, rfl, by decide, by decide, ?_⟩⟩
  dsimp! [sWhile]
  refine ⟨fun k s h' => ∃ n : Nat, k = 20001 - n ∧ (∀ i, i < n → GB.step f r t b (GB.E f r t b i) < r) ∧ s = [some x, some (.ref p), some (.int r), some (.int (GB.step f r t b (GB.E f r t b n)))] ∧ h' = put h p (.lst (endsT f r t b n)), ⟨20001, 0, rfl, (fun i hi => absurd hi (Nat.not_lt_zero i)), rfl, rfl⟩, ?_⟩
  rintro k s h' ⟨n, rfl, low, rfl, rfl⟩
  have hn := GB.low_few o low
  dsimp! [endsT_last]
  by_cases c : GB.step f r t b (GB.E f r t b n) < r
  · have hg := (GB.low_grow o c).2
    have h0 := GB.E_nonneg o (n + 1)
    have hE := GB.E_succ o n
    have sl := GB.step_le o (GB.E f r t b n)
    have r1 := o.r1
    have hl : (endsT f r t b n).length < 1000000 := by rw [endsT_len]; omega
    have e1 : endsT f r t b n ++ [T.int (GB.E f r t b n + GB.step f r t b (GB.E f r t b n))] = endsT f r t b (n + 1) := by rw [endsT_succ, hE]
    dsimp! [c, hl, e1, endsT_last, hi, lk_step, C_Book_step]
    refine ⟨x, f, r, t, b, _, rfl, hb _, o, .inl ⟨_, rfl, h0, ?_, ?_⟩⟩
    · have e40 : (10 : Int) ^ 32 + 10 ^ 30 ≤ 10 ^ 40 := by decide
      omega
    · have low' : ∀ i, i < n + 1 → GB.step f r t b (GB.E f r t b i) < r := fun i hi => by
        by_cases z : i = n
        · subst z; exact c
        · exact low i (by omega)
      have := GB.low_few o low'
      dsimp! [ends]
      exact ⟨20001 - (n + 1), by omega, n + 1, rfl, low', rfl, rfl⟩
  · dsimp! [c]
    exact dn_self (q n ⟨by omega, low, hn⟩ p np)
theorem pw9 : (10 : Int) ^ Int.toNat 9 = 1000000000 := rfl
theorem pw12 : (10 : Int) ^ Int.toNat 12 = 1000000000000 := rfl
theorem pw30 : (10 : Int) ^ Int.toNat 30 = 10 ^ 30 := rfl
theorem pw40 : (10 : Int) ^ Int.toNat 40 = 10 ^ 40 := rfl
theorem pl_law_great : ∀ ts h Q E, ts.length = 1 → C_law_great ts h Q E → B_law_great (ends Q E) (startT N_law_great.length ts) h := by
  rintro ts h Q E - ⟨p, rfl, hp, q⟩
  unfold B_law_great
  dsimp! [CDraw]
  refine ⟨p, 4, rfl, by decide, by decide, hp, fun r1 r10 r11 => ?_⟩
  have c1 : ∃ d : Int, atI ([.int 10, .int 100, .int (10 ^ 9), .int (10 ^ 30)] : List T) r1 = some (T.int d) ∧ 0 < d ∧ d ≤ 10 ^ 30 := by
    have : r1 = 0 ∨ r1 = 1 ∨ r1 = 2 ∨ r1 = 3 := by omega
    rcases this with rfl | rfl | rfl | rfl <;> exact ⟨_, rfl, by decide, by decide⟩
  obtain ⟨d1, e1, d10, d11⟩ := c1
  dsimp! [e1]
  have p250 : (10 : Int) ^ 30 < 2 ^ 250 := by decide
  refine ⟨p, d1, rfl, d10, by omega, hp, fun f f0 f1 => ?_⟩
  refine ⟨p, 4, rfl, by decide, by decide, hp, fun r2 r20 r21 => ?_⟩
  have c2 : ∃ d : Int, atI ([.int 10, .int 1000, .int (10 ^ 12), .int (10 ^ 30)] : List T) r2 = some (T.int d) ∧ 0 < d ∧ d ≤ 10 ^ 30 := by
    have : r2 = 0 ∨ r2 = 1 ∨ r2 = 2 ∨ r2 = 3 := by omega
    rcases this with rfl | rfl | rfl | rfl <;> exact ⟨_, rfl, by decide, by decide⟩
  obtain ⟨d2, e2, d20, d21⟩ := c2
  dsimp! [e2]
  refine ⟨p, d2, rfl, d20, by omega, hp, fun m m0 m1 => ?_⟩
  refine ⟨p, 20, rfl, by decide, by decide, hp, fun t t0 t1 => ?_⟩
  refine ⟨p, 20, rfl, by decide, by decide, hp, fun b b0 b1 => ?_⟩
  refine dn_self (q (1 + f) _ (1 + t) (1 + b) ⟨by omega, ?_, ?_, by omega, by omega, by omega, by omega⟩)
  · split <;> omega
  · split <;> omega
theorem pl_law_ends : ∀ ts h Q E, ts.length = 2 → C_law_ends ts h Q E → B_law_ends (ends Q E) (startT N_law_ends.length ts) h := by
  rintro ts h Q E - ⟨f, r, t, b, n, rfl, o, hn, q⟩
  unfold B_law_ends
  have n0 : (-1000000 : Int) ≤ n := by omega
  have n1 : (n : Int) ≤ 1000000 := by omega
  dsimp! [n0, n1, Int.toNat_natCast]
  intro p np
  refine forK_go (fun i s h' => ∃ x3, s = [some (ptT f r t b), some (.int n), some (.ref p), x3] ∧ h' = put h p (.lst (endsT f r t b i))) ⟨none, rfl, rfl⟩ ?_ ?_
  · rintro s h' ⟨x3, rfl, rfl⟩
    rw [rng_len]
    dsimp! [ends]
    exact dn_self (q p np)
  · rintro i z s h' e ⟨x3, rfl, rfl⟩
    obtain ⟨hi, rfl⟩ := rng_at e
    have hl : (endsT f r t b i).length < 1000000 := by rw [endsT_len]; omega
    have e1 : endsT f r t b i ++ [T.int (GB.E f r t b i + GB.step f r t b (GB.E f r t b i))] = endsT f r t b (i + 1) := by rw [endsT_succ]; rfl
    dsimp! [endsT_last, C_law_step]
    refine ⟨f, r, t, b, _, rfl, o, ?_⟩
    dsimp! [hl, e1]
    exact ⟨_, rfl⟩
theorem mem_ints (k : Int) (xs : List Int) (l : Int) : inT (.int k) (xs.map T.int ++ [T.int l]) = true ↔ k ∈ xs ∨ k = l := by
  have e : xs.map T.int ++ [T.int l] = (xs ++ [l]).map T.int := by rw [List.map_append]; rfl
  rw [e, inT_iff (n := 1) rfl (ints_cln 0 _)]
  constructor
  · intro h
    obtain ⟨z, hz, e2⟩ := List.mem_map.mp h
    cases e2
    rcases List.mem_append.mp hz with w | w
    · exact .inl w
    · exact .inr (by simpa using w)
  · rintro (h | rfl)
    · exact List.mem_map_of_mem (List.mem_append_left _ h)
    · exact List.mem_map_of_mem (List.mem_append_right _ (by simp))
theorem pl_is_end_of : ∀ ts h Q E, ts.length = 3 → C_is_end_of ts h Q E → B_is_end_of (ends Q E) (startT N_is_end_of.length ts) h := by
  rintro ts h Q E - ⟨xs, l, r, k, rfl, hr, q⟩
  unfold B_is_end_of
  have e1 : atI (xs.map T.int ++ [T.int l]) (-1) = some (.int l) := atI_m1
  by_cases c : k ≤ l
  · dsimp! [e1, c, oIn]
    refine ⟨?_, dn_self (q _ ?_)⟩
    · have e : xs.map T.int ++ [T.int l] = (xs ++ [l]).map T.int := by rw [List.map_append]; rfl
      rw [e]
      exact dep (n := 2) (cln_dat 2 _ (ci_cln 0 _))
    · rw [Bool.bne_false, mem_ints]
      constructor
      · intro z; exact .inl ⟨c, z⟩
      · rintro (⟨_, z⟩ | ⟨z, _⟩)
        · exact z
        · omega
  · dsimp! [e1, c]
    refine ⟨hr, dn_self (q _ ?_)⟩
    rw [decide_eq_true_eq]
    constructor
    · intro z; exact .inr ⟨by omega, z⟩
    · rintro (⟨z, _⟩ | ⟨_, z⟩)
      · omega
      · exact z
theorem endsT_split (f r t b : Int) (n : Nat) : endsT f r t b n = ((List.range n).map fun i => GB.E f r t b i).map T.int ++ [.int (GB.E f r t b n)] := by
  unfold endsT
  rw [List.range_succ, List.map_append, List.map_map]
  rfl
theorem ramp_end {f r t b : Int} (o : GB.Ok f r t b) {n : Nat} (R : GB.Ramp f r t b n) (k : Int) : ((k ≤ GB.E f r t b n ∧ (k ∈ ((List.range n).map fun i => GB.E f r t b i) ∨ k = GB.E f r t b n)) ∨ (GB.E f r t b n < k ∧ (k - GB.E f r t b n) % r = 0)) ↔ GB.End f r t b k := by
  rw [GB.end_iff o R]
  constructor
  · rintro (⟨h1, h2⟩ | h)
    · refine .inl ⟨h1, ?_⟩
      rcases h2 with h2 | rfl
      · obtain ⟨i, hi, e⟩ := List.mem_map.mp h2
        exact ⟨i, Nat.le_of_lt (List.mem_range.mp hi), e⟩
      · exact ⟨n, Nat.le_refl _, rfl⟩
    · exact .inr h
  · rintro (⟨h1, i, hi, e⟩ | h)
    · refine .inl ⟨h1, ?_⟩
      by_cases c : i = n
      · subst c; exact .inr e.symm
      · exact .inl (List.mem_map.mpr ⟨i, List.mem_range.mpr (by omega), e⟩)
    · exact .inr h
theorem pl_is_end (Z : Tx K mg a) : ∀ ts h Q E, ts.length = 2 → C_is_end a ts h Q E → B_is_end K a (ends Q E) (startT N_is_end.length ts) h := by
  rintro ts h Q E - ⟨x, f, r, t, b, y, rfl, hx, o, hh⟩
  unfold B_is_end
  have hi : insOf h x = some (a.c_Book, bkF f r t b) := hx
  dsimp! [C_check_integer, C_ramp, p40]
  rcases hh with ⟨k, rfl, k0, k1, q⟩ | ⟨k, hk, hi, q⟩
  · refine ⟨_, _, _, rfl, .inl ⟨k, rfl, k0, k1, x, f, r, t, b, rfl, hx, o, fun n R p np => ?_⟩⟩
    dsimp! [del_put np, hi, C_Book_roof, C_is_end_of]
    refine ⟨x, f, r, t, b, rfl, hx, ?_⟩
    dsimp! [C_is_end_of]
    refine ⟨_, _, r, k, by rw [endsT_split], by have := o.f1; have := o.fr; omega, fun v hv => dn_self (q v ?_)⟩
    rw [hv]
    exact ramp_end o R k
  · exact ⟨_, _, _, rfl, .inr ⟨k, hk, hi, dnX_self q⟩⟩
theorem pl_end_at (Z : Tx K mg a) : ∀ ts h Q E, ts.length = 2 → C_end_at a ts h Q E → B_end_at K a (ends Q E) (startT N_end_at.length ts) h := by
  rintro ts h Q E - ⟨x, f, r, t, b, n, rfl, hx, o, hn, q⟩
  unfold B_end_at
  have hi : insOf h x = some (a.c_Book, bkF f r t b) := hx
  dsimp! [C_ramp]
  refine ⟨x, f, r, t, b, rfl, hx, o, fun m R p np => ?_⟩
  dsimp! [del_put np, endsT_len]
  by_cases c : (n : Int) < ((m + 1 : Nat) : Int)
  · have e : atI (endsT f r t b m) (n : Int) = some (.int (GB.E f r t b n)) := atI_nat' (by unfold endsT; rw [List.getElem?_map, List.getElem?_range (by omega)]; rfl)
    dsimp! [c, e]
    exact dn_self q
  · dsimp! [c, endsT_last, hi, C_Book_roof]
    refine ⟨x, f, r, t, b, rfl, hx, ?_⟩
    have p250 : (10 : Int) ^ 30 < 2 ^ 250 := by decide
    have r1 := o.r1
    have r0 : 0 < r := by have := o.f1; have := o.fr; omega
    refine ⟨.inr (.inr ⟨by omega, by omega⟩), ?_⟩
    have e := (GB.E_top o R.top (n - m)).1
    rw [show m + (n - m) = n by omega] at e
    have e2 : ((n : Int) - ((m + 1 : Nat) : Int) + 1) = ((n - m : Nat) : Int) := by omega
    rw [e2, ← e]
    exact dn_self q
theorem pl_end_behind (Z : Tx K mg a) : ∀ ts h Q E, ts.length = 2 → C_end_behind a ts h Q E → B_end_behind K a (ends Q E) (startT N_end_behind.length ts) h := by
  rintro ts h Q E - ⟨x, f, r, t, b, y, rfl, hx, o, hh⟩
  unfold B_end_behind
  dsimp! [C_check_integer, C_end_at, p30]
  rcases hh with ⟨n, rfl, n1, q⟩ | ⟨k, hk, hi, q⟩
  · exact ⟨_, _, _, rfl, .inl ⟨n, rfl, by omega, n1, x, f, r, t, b, n, rfl, hx, o, n1, dn_self q⟩⟩
  · exact ⟨_, _, _, rfl, .inr ⟨k, hk, hi, dnX_self q⟩⟩
theorem lk_parts {f r t b : Int} : (bkF f r t b).lookup ("parts" : Str) = none := rfl
theorem pl_Book_parts (Z : Tx K mg a) : ∀ ts h Q E, ts.length = 1 → C_Book_parts a ts h Q E → B_Book_parts K a (ends Q E) (startT N_Book_parts.length ts) h := by
  rintro ts h Q E - ⟨x, f, r, t, b, rfl, hx, q⟩
  unfold B_Book_parts
  unfold Bk at hx
  dsimp! [eFld, hx, lk_first, lk_roof, lk_share]
  exact dn_self q
theorem pl_Book___eq__ (Z : Tx K mg a) : ∀ ts h Q E, ts.length = 2 → C_Book___eq__ a ts h Q E → B_Book___eq__ K a (ends Q E) (startT N_Book___eq__.length ts) h := by
  rintro ts h Q E - ⟨x, y, f, r, t, b, f', r', t', b', rfl, hx, hy, q⟩
  unfold B_Book___eq__
  have hx' := hx; have hy' := hy
  unfold Bk at hx hy
  dsimp! [oIsiC]
  refine .inr ⟨_, _, _, hy, Z.ty_Book, Z.ki_Book_Book, ?_⟩
  dsimp! [hx, hy, lk_parts, C_Book_parts]
  refine ⟨x, f, r, t, b, rfl, hx', ?_⟩
  dsimp! [hx, hy, lk_parts, C_Book_parts, ptT, shT]
  refine ⟨y, f', r', t', b', rfl, hy', ?_⟩
  dsimp! [ptT, shT]
  exact ⟨rfl, rfl, dn_self q⟩
end
end TL

set_option maxHeartbeats 2000000
namespace TL
open PySem L2

section
variable {K : PySem.W.Frag} {mg : Str → Option Value} {a : Ad}
theorem dnL_of {Q : List T → Hq → Prop} {ts : List T} {h h2 : Hq} (s : Sub h2 h) (q : Q ts h2) : dnL Q ts h := ⟨h2, s, q⟩
theorem yseq_go {x y : GnM} {D : GnE} {ys : List T} {s : Sl} {h : Hq} (q : x { D with nx := fun ys' s' h' => y D ys' s' h' } ys s h) : ySeq x y D ys s h := q
theorem yplain_go {x : SM} {D : GnE} {ys : List T} {s : Sl} {h : Hq} (q : x { nx := D.nx ys, rt := D.rt ys, bk := D.bk ys, ct := D.ct ys, ex := D.ex } s h) : yPlain x D ys s h := q
theorem yyield_go {m : EM} {D : GnE} {ys : List T} {t : T} {s : Sl} {h : Hq} (l : ys.length < lim) (hm : Ev s h D.ex m t) (q : D.nx (ys ++ [t]) s h) : yYield m D ys s h := ⟨l, hm _ q⟩
theorem yyield_seq {m : EM} {y : GnM} {D : GnE} {ys : List T} {t : T} {s : Sl} {h : Hq} (l : ys.length < lim) (hm : Ev s h D.ex m t) (q : y D (ys ++ [t]) s h) : ySeq (yYield m) y D ys s h := ⟨l, hm _ q⟩
theorem yplain_seq {x : SM} {y : GnM} {D : GnE} {ys : List T} {s : Sl} {h : Hq} (q : x { nx := y D ys, rt := D.rt ys, bk := D.bk ys, ct := D.ct ys, ex := D.ex } s h) : ySeq (yPlain x) y D ys s h := q
theorem ywhile_go {c : TM} {b : GnM} {D : GnE} {ys : List T} {s : Sl} {h : Hq} (I : Nat → List T → SK) (n : Nat) (i0 : I n ys s h) (st : ∀ n ys s h, I n ys s h → c s h (fun d h1 => if d = true then b { D with nx := fun ys' s' h' => ∃ n', n' < n ∧ I n' ys' s' h', ct := fun ys' s' h' => ∃ n', n' < n ∧ I n' ys' s' h', bk := D.nx } ys s h1 else D.nx ys s h1) D.ex) : yWhile c b D ys s h := ⟨I, ⟨n, i0⟩, st⟩
theorem pl_ends (Z : Tx K mg a) : ∀ ts h Q E, ts.length = 2 → C_ends a ts h Q E → B_ends K a (endsG Q E) [] (startT N_ends.length ts) h := by
  rintro ts h Q E - ⟨x, f, r, t, b, k, rfl, hx, o, k0, k1, n, nl, e1, e2, q⟩
  unfold B_ends
  have hx' := hx
  unfold Bk at hx'
  have p40 : (10000000000000000000000000000000000000000 : Int) = 10 ^ 40 := by decide
  rw [p40]
  refine yplain_seq (drop_to (calls (ea_cons (ev_var rfl) (ea_cons ev_c (ea_cons ev_c ea_nil))) rfl ⟨.int k, 0, 10 ^ 40, rfl, .inl ⟨k, rfl, k0, k1, ?_⟩⟩))
  refine yplain_seq ((asg_to ev_c ?_))
  refine yseq_go (ywhile_go (fun m ys s h' => h' = h ∧ ∃ j : Nat, j ≤ n + 1 ∧ m = n + 1 - j ∧ ys = (List.range j).map (fun i => T.int (GB.E f r t b i)) ∧ s = [some x, some (.int k), some (.int (GB.E f r t b j))]) (n + 1) ⟨rfl, 0, by omega, by omega, rfl, rfl⟩ ?_)
  rintro m ys s h' ⟨rfl, j, jl, rfl, rfl, rfl⟩
  refine (ef_of (ev_le (i := GB.E f r t b j) (j := k) (ev_var rfl) (ev_var rfl))) _ ?_
  by_cases c : GB.E f r t b j ≤ k
  · rw [decide_eq_true c, if_pos rfl]
    have jn : j ≤ n := by
      have : j < n + 1 := (GB.E_strict o).mp (Int.lt_of_le_of_lt c e2)
      omega
    have j0 := GB.E_nonneg o j
    refine (yyield_seq (t := .int (GB.E f r t b j)) (by rw [List.length_map, List.length_range]; exact Nat.lt_of_le_of_lt (show j ≤ 1001 by omega) (by decide)) (ev_var rfl) ?_)
    refine yplain_seq ((aug_to (x := GB.E f r t b j) (y := GB.step f r t b (GB.E f r t b j)) rfl (fun R rr => methF_go (ev_var rfl) hx' rfl (ea_cons (ev_var rfl) ea_nil) rfl ⟨x, f, r, t, b, .int (GB.E f r t b j), rfl, hx, o, .inl ⟨_, rfl, j0, Int.le_trans c k1, rr⟩⟩) ?_))
    refine ⟨n + 1 - (j + 1), by omega, rfl, j + 1, by omega, rfl, ?_, rfl⟩
    rw [List.range_succ, List.map_append]
    rfl
  · rw [decide_eq_false c, if_neg Bool.false_ne_true]
    have jn : j = n + 1 := by
      refine Nat.le_antisymm jl (Nat.lt_of_not_le fun z => c ?_)
      exact Int.le_trans (GB.E_mono o z) e1
    subst jn
    exact dnL_of (fun _ _ e => e) q
theorem pl0_ends (Z : Tx K mg a) : ∀ ts h E, ts.length = 2 → C0_ends a ts h E → B0_ends K a (endsN E) (startT N_ends.length ts) h := by
  rintro ts h E - ⟨x, f, r, t, b, y, rfl, hx, o, ⟨kd, hk⟩, nb, q⟩
  unfold B0_ends
  have p40 : (10000000000000000000000000000000000000000 : Int) = 10 ^ 40 := by decide
  rw [p40]
  refine drop_go (calls (ea_cons (ev_var rfl) (ea_cons ev_c (ea_cons ev_c ea_nil))) rfl ⟨y, 0, 10 ^ 40, rfl, .inr ⟨kd, hk, nb, ?_⟩⟩)
  exact dnX_self q
theorem ev_reprX {x : EM} {t : T} {z : Str} {s : Sl} {h : Hq} {E : EX} (hx : Ev s h E x t) (e : reprX h t = some z) : Ev s h E (eCB oReprX (aCons x aNil)) (.str z) := fun Q q => hx _ (by
  show (match reprX h t with | some z => Q (.str z) h | none => False)
  rw [e]
  exact q)
theorem forN_go {cs : List Addr} {n : Nat} {c : ConN} {a : AM} {D : En} {vs : List T} {s : Sl} {h : Hq} (hm : Ea s h D.ex a vs) (hl : vs.length = n) (q : c vs h (errIn cs D.ex s)) : sForN cs n c a D s h := hm _ ⟨hl, q⟩
theorem isInt_mono {y : T} {l u v : Int} (e : isInt y l v = false) (h : u ≤ v) : isInt y l u = false := by
  cases y <;> first | rfl | skip
  rename_i i
  unfold isInt at *
  by_cases c : l ≤ i
  · by_cases d : i ≤ u
    · simp [c, Int.le_trans d h] at e
    · simp [d]
  · simp [c]
theorem pl_law_refused (Z : Tx K mg a) : ∀ ts h Q E, ts.length = 3 → C_law_refused a ts h Q E → B_law_refused K a (ends Q E) (startT N_law_refused.length ts) h := by
  rintro ts h Q E - ⟨x, f, r, t, b, d, y, z, rfl, hx, o, ⟨kd, hk⟩, h4, n3, hz, ok, q⟩
  unfold B_law_refused
  refine stry_go ?_
  refine if_go (ef_of (ev_eqI (i := d) (j := 0) (ev_var rfl) ev_c)) (fun c => ?_) fun c => ?_
  · refine drop_to (calls (ea_cons (ev_var rfl) (ea_cons (ev_var rfl) ea_nil)) rfl ⟨x, f, r, t, b, y, rfl, hx, o, .inr ⟨kd, hk, n3, ?_⟩⟩)
    refine ex_try Z.m_InvalidNumber_GrowError fun ea ed na => ?_
    exact ret_ev (v := .bl true) (ev_as (ev_andV (b := true) (c := true) (ev_isE (ev_var rfl) Z.q_InvalidNumber Z.k_InvalidNumber_InvalidNumber) (ev_andV (b := true) (c := true) (ev_notV (b := false) (ev_isE (ev_var rfl) Z.q_InvalidNumber Z.k_InvalidNumber_InvalidBook)) (ev_sameE (t := .str z) (n := 1) (ev_reprX (ev_xf (ev_var rfl) Z.x_InvalidNumber Z.n_InvalidNumber (lkc _ _ _)) hz) (ev_reprX (ev_var rfl) hz) rfl ok))) rfl) (dn_self q)
  have d0 : d ≠ 0 := fun z => by rw [z] at c; simp at c
  have n4 : isInt y 0 (10 ^ 40) = false := h4.resolve_left d0
  refine if_go (ef_of (ev_eqI (i := d) (j := 1) (ev_var rfl) ev_c)) (fun c => ?_) fun c => ?_
  · refine drop_to (calls (ea_cons (ev_var rfl) (ea_cons (ev_var rfl) ea_nil)) rfl ⟨x, f, r, t, b, y, rfl, hx, o, .inr ⟨kd, hk, n4, ?_⟩⟩)
    refine ex_try Z.m_InvalidNumber_GrowError fun ea ed na => ?_
    exact ret_ev (v := .bl true) (ev_as (ev_andV (b := true) (c := true) (ev_isE (ev_var rfl) Z.q_InvalidNumber Z.k_InvalidNumber_InvalidNumber) (ev_andV (b := true) (c := true) (ev_notV (b := false) (ev_isE (ev_var rfl) Z.q_InvalidNumber Z.k_InvalidNumber_InvalidBook)) (ev_sameE (t := .str z) (n := 1) (ev_reprX (ev_xf (ev_var rfl) Z.x_InvalidNumber Z.n_InvalidNumber (lkc _ _ _)) hz) (ev_reprX (ev_var rfl) hz) rfl ok))) rfl) (dn_self q)
  · refine forN_go (ea_cons (ev_var rfl) (ea_cons (ev_var rfl) ea_nil)) rfl ⟨x, f, r, t, b, y, rfl, hx, o, ⟨kd, hk⟩, n4, ⟨_, List.mem_singleton.mpr rfl, rfl⟩, ?_⟩
    dsimp only
    refine ex_try Z.m_InvalidNumber_GrowError fun ea ed na => ?_
    exact ret_ev (v := .bl true) (ev_as (ev_andV (b := true) (c := true) (ev_isE (ev_var rfl) Z.q_InvalidNumber Z.k_InvalidNumber_InvalidNumber) (ev_andV (b := true) (c := true) (ev_notV (b := false) (ev_isE (ev_var rfl) Z.q_InvalidNumber Z.k_InvalidNumber_InvalidBook)) (ev_sameE (t := .str z) (n := 1) (ev_reprX (ev_xf (ev_var rfl) Z.x_InvalidNumber Z.n_InvalidNumber (lkc _ _ _)) hz) (ev_reprX (ev_var rfl) hz) rfl ok))) rfl) (dn_self q)
end
end TL

set_option maxHeartbeats 2000000
namespace TL
open PySem L2

section
variable {K : PySem.W.Frag} {mg : Str → Option Value} {a : Ad}
theorem nx_go1 {D : En} {r : SM} {rt : TK} {bk ct : SK} {ex : EX} {s : Sl} {h : Hq} (q : r D s h) : ({ nx := r D, rt := rt, bk := bk, ct := ct, ex := ex } : En).nx s h := q
theorem odd_ok {t : T} (ht : t ∈ ([.non, .bl true, .int (0 - 1), .str "1", .tup [.int 1], .int ((10 ^ 40) + 1)] : List T)) (h : Hq) : (∃ k, kdOf h t = some k) ∧ isInt t 0 (10 ^ 40) = false ∧ ∃ z, reprX h t = some z ∧ PyData.strOk z = true := by
  have flat : ∀ {t : T}, (∀ b, t ≠ .ref b) → reprX h t = reprD t := fun {t} n => by
    cases t with
    | ref b => exact absurd rfl (n b)
    | _ => rfl
  have of : ∀ {t : T} {d : PyData}, toD t = some d → d.showable = true → d.hasDict = false → d.depth ≤ 60 → d.shown.length ≤ 1000000 → reprD t = some d.shown := fun {t d} e h1 h2 h3 h4 => by
    unfold reprD
    rw [e]
    exact if_pos ⟨h1, h2, h3, h4⟩
  simp only [List.mem_cons, List.not_mem_nil, or_false] at ht
  rcases ht with rfl | rfl | rfl | rfl | rfl | rfl
  · exact ⟨⟨.non, rfl⟩, rfl, _, (flat (fun b z => by cases z)).trans (of (d := .none) rfl (by decide +kernel) (by decide +kernel) (by decide +kernel) (by decide +kernel)), by decide +kernel⟩
  · exact ⟨⟨.bl, rfl⟩, rfl, _, (flat (fun b z => by cases z)).trans (of (d := .bool true) rfl (by decide +kernel) (by decide +kernel) (by decide +kernel) (by decide +kernel)), by decide +kernel⟩
  · exact ⟨⟨.int, rfl⟩, by decide +kernel, _, (flat (fun b z => by cases z)).trans (of (d := .int (0 - 1)) rfl (by decide +kernel) (by decide +kernel) (by decide +kernel) (by decide +kernel)), by decide +kernel⟩
  · exact ⟨⟨.str, rfl⟩, rfl, _, (flat (fun b z => by cases z)).trans (of (d := .str "1") (by unfold toD; exact if_pos (strOk_of _)) (by decide +kernel) (by decide +kernel) (by decide +kernel) (by decide +kernel)), by decide +kernel⟩
  · exact ⟨⟨.tup, rfl⟩, rfl, _, (flat (fun b z => by cases z)).trans (of (d := .tuple [.int 1]) rfl (by decide +kernel) (by decide +kernel) (by decide +kernel) (by decide +kernel)), by decide +kernel⟩
  · exact ⟨⟨.int, rfl⟩, by decide +kernel, _, (flat (fun b z => by cases z)).trans (of (d := .int ((10 ^ 40) + 1)) rfl (by decide +kernel) (by decide +kernel) (by decide +kernel) (by decide +kernel)), by decide +kernel⟩
theorem ref30 (h : Hq) : isInt (.int ((10 ^ 30) + 1)) 0 (10 ^ 30) = false ∧ ∃ z, reprX h (.int ((10 ^ 30) + 1)) = some z ∧ PyData.strOk z = true := by
  refine ⟨by decide +kernel, (PyData.int ((10 ^ 30) + 1)).shown, ?_, by decide +kernel⟩
  show reprD (.int ((10 ^ 30) + 1)) = _
  unfold reprD
  exact if_pos (by decide +kernel)
theorem books_eq {h : Hq} {x y : T} {f r t b : Int} {Q : TK} (hx : Bk a h x f r t b) (hy : Bk a h y f r t b) (q : Q (.bl false) h) : oOwnNe a.c_Book (C_Book___eq__ a) x y h Q := by
  have hx' := hx; have hy' := hy
  unfold Bk at hx' hy'
  unfold oOwnNe
  rw [hx', hy']
  refine ⟨rfl, rfl, x, y, f, r, t, b, f, r, t, b, rfl, hx, hy, ?_⟩
  have e : eqT (ptT f r t b) (ptT f r t b) = true := eqT_self 3 _ rfl
  rw [e]
  exact q
section
variable {s : Sl} {h : Hq} {E : EX} {f r t b : Int}
theorem ev_bookF {x : EM} (hx : Ev s h E x (ptT f r t b)) (o : GB.Ok f r t b) : Ev s h E (eFrz (eCall 1 (C_law_book a) (aCons x aNil))) (bk a f r t b) := fun Q q => calls (ea_cons hx ea_nil) rfl ⟨f, r, t, b, rfl, o, fun p np => frz_ins np q⟩
theorem ev_lstep {x y : EM} {k : Int} (hx : Ev s h E x (ptT f r t b)) (hy : Ev s h E y (.int k)) (o : GB.Ok f r t b) : Ev s h E (eFrz (eCall 2 C_law_step (aCons x (aCons y aNil)))) (.int (GB.step f r t b k)) := fun Q q => calls (ea_cons hx (ea_cons hy ea_nil)) rfl ⟨f, r, t, b, k, rfl, o, frz_I q⟩
theorem ev_lcG {x y : EM} {k : Int} {n : Nat} (hx : Ev s h E x (bk a f r t b)) (hy : Ev s h E y (.int k)) (o : GB.Ok f r t b) (k0 : 0 ≤ k) (k1 : k ≤ 10 ^ 40) (nl : n ≤ 1000) (e1 : GB.E f r t b n ≤ k) (e2 : k < GB.E f r t b (n + 1)) : Ev s h E (eLcG true [a.c_InvalidNumber] 2 (C_ends a) (aCons x (aCons y aNil))) (.lst (endsT f r t b n)) := fun Q q =>
  hx _ (hy _ ⟨rfl, bk a f r t b, f, r, t, b, k, rfl, rfl, o, k0, k1, n, nl, e1, e2, by show mk true _ _ _; rw [mk_true]; exact q⟩)
theorem ev_behind {x y : EM} {n : Nat} (hx : Ev s h E x (bk a f r t b)) (hy : Ev s h E y (.int n)) (o : GB.Ok f r t b) (l : (n : Int) ≤ 10 ^ 30) : Ev s h E (eFrz (eCall 2 (C_end_behind a) (aCons x (aCons y aNil)))) (.int (GB.E f r t b n)) := fun Q q =>
  calls (ea_cons hx (ea_cons hy ea_nil)) rfl ⟨bk a f r t b, f, r, t, b, .int n, rfl, rfl, o, .inl ⟨n, rfl, l, frz_I q⟩⟩
theorem ev_isEnd {x y : EM} {k : Int} {v : Bool} (hx : Ev s h E x (bk a f r t b)) (hy : Ev s h E y (.int k)) (o : GB.Ok f r t b) (k0 : 0 ≤ k) (k1 : k ≤ 10 ^ 40) (hv : v = true ↔ ∃ i, GB.E f r t b i = k) : Ev s h E (eFrz (eCall 2 (C_is_end a) (aCons x (aCons y aNil)))) (.bl v) := fun Q q =>
  calls (ea_cons hx (ea_cons hy ea_nil)) rfl ⟨bk a f r t b, f, r, t, b, .int k, rfl, rfl, o, .inl ⟨k, rfl, k0, k1, fun w hw => frz_B (by
    have : w = v := Bool.eq_iff_iff.mpr (hw.trans hv.symm)
    rw [this]; exact q)⟩⟩
theorem ev_ref {x y z : EM} {d : Int} {u : T} (hx : Ev s h E x (.int d)) (hy : Ev s h E y (bk a f r t b)) (hz : Ev s h E z u) (o : GB.Ok f r t b) (hk : ∃ k, kdOf h u = some k) (h4 : d = 0 ∨ isInt u 0 (10 ^ 40) = false) (h3 : isInt u 0 (10 ^ 30) = false) (hr : ∃ w, reprX h u = some w ∧ PyData.strOk w = true) : Ev s h E (eFrz (eCall 3 (C_law_refused a) (aCons x (aCons y (aCons z aNil))))) (.bl true) := fun Q q => by
  obtain ⟨w, e1, e2⟩ := hr
  exact calls (ea_cons hx (ea_cons hy (ea_cons hz ea_nil))) rfl ⟨bk a f r t b, f, r, t, b, d, u, w, rfl, rfl, o, hk, h4, h3, e1, e2, frz_B q⟩
theorem endsT_at {n i : Nat} (hi : i ≤ n) : atI (endsT f r t b n) (i : Int) = some (.int (GB.E f r t b i)) := by
  refine atI_nat' ?_
  unfold endsT
  rw [List.getElem?_map, List.getElem?_range (by omega)]
  rfl
theorem parts_go {i : Nat} {p : Addr} {Q : TK} (hi : s[i]? = some (some (.ref p))) (hp : h p = some .pool) (q : ∀ f r t b, GB.Ok f r t b → Q (ptT f r t b) h) : eIf (tOf (eOp oEq (eFrz (eCall 2 CDraw (aCons (eVar i) (aCons (eC (.int 2)) aNil)))) (eC (.int 0)))) (eFrz (eCall 1 C_law_parts (aCons (eVar i) aNil))) (eFrz (eCall 1 C_law_great (aCons (eVar i) aNil))) s h Q E :=
  ife_draw hi ev_c hp (by decide) (by decide) (calls (ea_cons (ev_var hi) ea_nil) rfl ⟨p, rfl, hp, fun f r t b o _ _ _ _ => frz_T (q f r t b o)⟩) (calls (ea_cons (ev_var hi) ea_nil) rfl ⟨p, rfl, hp, fun f r t b o => frz_T (q f r t b o)⟩)
theorem endsT_cln {n : Nat} : cln 2 (.lst (endsT f r t b n)) = true := by
  unfold cln endsT
  rw [List.all_map, List.all_eq_true]
  intro _ _
  rfl
end
theorem pl_law (Z : Tx K mg a) : ∀ ts h Q E, ts.length = 1 → C_law ts h Q E → B_law K a (ends Q E) (startT N_law.length ts) h := by
  rintro ts h Q E - ⟨ns, rfl, hn, q⟩
  unfold B_law
  obtain ⟨m, m8, em⟩ := cells_eq ns 5 (by decide) (by decide) (s := startT N_law.length [.scr ns]) (h := h) (E := (ends Q E).ex) (i := 0) rfl
  refine sfor_rng em (fun i s h' => ∃ x1 x2 x3 x4 x5 x6 x7 x8 x9 x10 x11, s = [some (.scr ns), x1, x2, x3, x4, x5, x6, x7, x8, x9, x10, x11]) ⟨_, _, _, _, _, _, _, _, _, _, _, rfl⟩ ?_ ?_
  · rintro s h' ⟨x1, x2, x3, x4, x5, x6, x7, x8, x9, x10, x11, rfl⟩
    exact ret_ev ev_c (dn_self (q _))
  rintro i s h' hi ⟨x1, x2, x3, x4, x5, x6, x7, x8, x9, x10, x11, rfl⟩
  refine gN_go (set_go (hand_go rfl rfl (by omega) (by omega) hn fun p np => ?_))
  have hp1 : put h' p .pool p = some .pool := put_same
  generalize put h' p .pool = h1 at *
  refine set_go (parts_go rfl hp1 fun f r t b o => set_ev (ev_bookF (ev_var rfl) o) (set_go (call_go (ac_ev (ev_var rfl) (ac_any (draw_go rfl ev_c hp1 (by decide) (by decide) fun w w0 w1 => an_go ?_))))))
  obtain ⟨n, rfl⟩ := Int.eq_ofNat_of_zero_le w0
  refine ⟨rfl, f, r, t, b, n, rfl, o, by omega, fun p3 np3 => frz_lst np3 ?_⟩
  have n60 : n ≤ 60 := by omega
  have sp := GB.step_pos o (GB.E f r t b n)
  have sl := fun k => GB.step_le o k
  have r1 := o.r1
  have p250 : (10 : Int) ^ 30 < 2 ^ 250 := by decide
  have big : ∀ j : Nat, j ≤ 61 → GB.E f r t b j ≤ 10 ^ 39 := fun j hj => by
    have h1 := GB.E_le o j
    have h2 : ((j : Nat) : Int) * r ≤ 61 * r := Int.mul_le_mul_of_nonneg_right (by omega) (by have := o.f1; have := o.fr; omega)
    have h3 : (61 : Int) * 10 ^ 30 ≤ 10 ^ 39 := by decide
    omega
  have l60 : ∀ j : Nat, j ≤ n → (j : Int) ≤ 10 ^ 30 := fun j hj => Int.le_trans (show (j : Int) ≤ 60 by omega) (by decide)
  have e40 : (10 : Int) ^ 39 ≤ 10 ^ 40 := by decide
  have eS : ∀ j, GB.E f r t b (j + 1) = GB.E f r t b j + GB.step f r t b (GB.E f r t b j) := fun j => GB.E_succ o j
  have e0 : ∀ j, 0 ≤ GB.E f r t b j := fun j => GB.E_nonneg o j
  refine set_go (op_go (ev_ixL (ev_var rfl) ev_c rfl (endsT_last f r t b n) _ (draw_go rfl (ev_int (ev_lstep (ev_var rfl) (ev_ixL (ev_var rfl) ev_c rfl (endsT_last f r t b n)) o)) hp1 (by omega) (by have := sl (GB.E f r t b n); omega) fun u u0 u1 => add_go ?_)))
  have b1 := big n (by omega)
  have b2 := big (n + 1) (by omega)
  have z1 := e0 n
  have z2 := eS n
  refine sif1 (b := false) (ef_of (ev_same (n := 2) (ev_lcG (n := n) (ev_var rfl) (ev_var rfl) o (by omega) (by omega) (by omega) (by omega) (by omega)) (ev_var rfl) rfl endsT_cln)) (fun z => nomatch z) fun _ => ?_
  have er : Eq1 [some (.scr ns), some (.int (0 + i)), some (.ref p), some (ptT f r t b), some (bk a f r t b), some (.lst (endsT f r t b n)), some (T.int (GB.E f r t b n + u)), x7, x8, x9, x10, x11] h1 (ends Q E).ex (iRange1 (aCons (eCB oLen (aCons (eVar 5) aNil)) aNil)) (rng 0 (n + 1)) := eq_rng (ev_as (ev_len (ev_var rfl) rfl) (by rw [endsT_len])) (by omega)
  refine sfor_rng er (fun j s h2 => h2 = h1 ∧ ∃ x8 x9, s = [some (.scr ns), some (.int (0 + i)), some (.ref p), some (ptT f r t b), some (bk a f r t b), some (.lst (endsT f r t b n)), some (T.int (GB.E f r t b n + u)), x7, x8, x9, x10, x11]) ⟨rfl, _, _, rfl⟩ ?_ ?_
  · rintro s h2 ⟨rfl, x8, x9, rfl⟩
    refine sfor (eq_seq ev_c) (fun j s h3 => h3 = h2 ∧ ∃ x10 x11, s = [some (.scr ns), some (.int (0 + i)), some (.ref p), some (ptT f r t b), some (bk a f r t b), some (.lst (endsT f r t b n)), some (T.int (GB.E f r t b n + u)), x7, x8, x9, x10, x11]) ⟨rfl, _, _, rfl⟩ ?_ ?_
    · rintro s h3 ⟨rfl, x10, x11, rfl⟩
      obtain ⟨g1, g2⟩ := ref30 h3
      refine if_to (b := false) (ef_or (ef_as (ef_not (ef_tru (ev_ref ev_c (ev_var rfl) ev_c o ⟨.int, rfl⟩ (.inl rfl) g1 g2))) rfl) (ef_of fun R rr => op_go (ev_var rfl _ (ev_bookF (ev_var rfl) o _ (books_eq (x := bk a f r t b) (y := bk a f r t b) (f := f) (r := r) (t := t) (b := b) rfl rfl rr))))) (fun z => nomatch z) fun _ => ⟨_, _, _, _, _, _, _, _, _, _, _, rfl⟩
    · rintro j y s h3 ey ⟨rfl, x10, x11, rfl⟩
      obtain ⟨g1, g2, g3⟩ := odd_ok (List.mem_of_getElem? ey) h3
      refine gN_go (for_rng (eq_rng (n := 3) ev_c (by decide)) (fun j s h4 => h4 = h3 ∧ ∃ x11, s = [some (.scr ns), some (.int (0 + i)), some (.ref p), some (ptT f r t b), some (bk a f r t b), some (.lst (endsT f r t b n)), some (T.int (GB.E f r t b n + u)), x7, x8, x9, some y, x11]) ⟨rfl, _, rfl⟩ (fun s h4 z => ?_) ?_)
      · obtain ⟨rfl, x11, rfl⟩ := z
        exact ⟨rfl, _, _, rfl⟩
      · rintro d s h4 hd ⟨rfl, x11, rfl⟩
        refine gN_go (if_to (b := false) (ef_as (ef_not (ef_tru (ev_ref (ev_var rfl) (ev_var rfl) (ev_var rfl) o g1 (.inr g2) (isInt_mono g2 (by decide)) g3))) rfl) (fun z => nomatch z) fun _ => ⟨rfl, _, rfl⟩)
  rintro j s h2 hj ⟨rfl, x8, x9, rfl⟩
  have j0 : ((0 : Int) + (j : Nat)) = ((j : Nat) : Int) := Int.zero_add _
  refine gN_go ?_
  rw [j0]
  have jn : j ≤ n := by omega
  have at_ := endsT_at (f := f) (r := r) (t := t) (b := b) jn
  have c1 := big j (by omega)
  have c2 := big (j + 1) (by omega)
  have d1 := e0 j
  have d2 := eS j
  have sj := GB.step_pos o (GB.E f r t b j)
  have sr := sl (GB.E f r t b j)
  refine sif1 (b := false) (ef_or (ef_of (ev_same (t := .int (GB.E f r t b j)) (n := 1) (ev_behind (ev_var rfl) (ev_var rfl) o (l60 j jn)) (ev_ixL (ev_var rfl) (ev_var rfl) rfl at_) rfl rfl)) (ef_of (ev_as (ev_isB (t := .bl true) (ev_isEnd (v := true) (ev_var rfl) (ev_ixL (ev_var rfl) (ev_var rfl) rfl at_) o d1 (by omega) (iff_of_true rfl ⟨j, rfl⟩)) rfl) rfl))) (fun z => nomatch z) fun _ => ?_
  refine set_go (op_go (ev_add (ev_ixL (ev_var rfl) (ev_var rfl) rfl at_) ev_c _ (draw_go rfl (ev_int (ev_lstep (ev_var rfl) (ev_ixL (ev_var rfl) (ev_var rfl) rfl at_) o)) hp1 (by omega) (by omega) fun v v0 v1 => add_go ?_)))
  have hv : decide (GB.E f r t b j + 1 + v = GB.E f r t b j + GB.step f r t b (GB.E f r t b j)) = true ↔ ∃ i, GB.E f r t b i = GB.E f r t b j + 1 + v := by
    rw [decide_eq_true_eq, ← d2]
    constructor
    · intro z; exact ⟨j + 1, z.symm⟩
    · rintro ⟨i', hi'⟩
      have l1 : j < i' := (GB.E_strict o).mp (by omega)
      have l2 : GB.E f r t b i' ≤ GB.E f r t b (j + 1) := by omega
      have l3 : ¬ (j + 1 < i') := fun z => by
        have := (GB.E_strict o).mpr z
        omega
      have : i' = j + 1 := by omega
      rw [← hi', this]
  refine if_to (b := false) (ef_of (ev_selfN (n := 1) (ev_isEnd (ev_var rfl) (ev_var rfl) o (by omega) (by omega) hv) (ev_eqI (ev_var rfl) (ev_add (ev_ixL (ev_var rfl) (ev_var rfl) rfl at_) (ev_lstep (ev_var rfl) (ev_ixL (ev_var rfl) (ev_var rfl) rfl at_) o))) rfl)) (fun z => nomatch z) fun _ => ⟨rfl, _, _, rfl⟩
end
end TL

set_option maxHeartbeats 4000000
namespace TL
open PySem L2
section
variable {P : Program} {w : World} {K : PySem.W.Frag} {mg : Str → Option Value} {base : Heap} {a : Ad}
theorem sci_InvalidNumber : FnScope ["self", "number"] ["self", "number"] (defScope si_InvalidNumber) := ⟨rfl, rfl, rfl, by decide +kernel, rfl, by decide +kernel, by decide +kernel⟩
theorem okI_InvalidNumber (T : Tx K mg a) : FnOk P w K mg base (L2.CX P w) 1 a.i_InvalidNumber a.e_InvalidNumber ["self", "number"] (spInit a.c_InvalidNumber "number") := init_ok T.FI_InvalidNumber sci_InvalidNumber T.o_InvalidNumber T.n_InvalidNumber rfl (Or.inl rfl) (Or.inl rfl) (by decide) (by decide) (fun _ _ => rfl)
theorem sci_InvalidBook : FnScope ["self", "part"] ["self", "part"] (defScope si_InvalidBook) := ⟨rfl, rfl, rfl, by decide +kernel, rfl, by decide +kernel, by decide +kernel⟩
theorem okI_InvalidBook (T : Tx K mg a) : FnOk P w K mg base (L2.CX P w) 1 a.i_InvalidBook a.e_InvalidBook ["self", "part"] (spInit a.c_InvalidBook "part") := init_ok T.FI_InvalidBook sci_InvalidBook T.o_InvalidBook T.n_InvalidBook rfl (Or.inl rfl) (Or.inl rfl) (by decide) (by decide) (fun _ _ => rfl)
theorem sc_is_integer : FnScope N_is_integer ["thing", "least", "most"] (defScope s_is_integer) := ⟨rfl, rfl, rfl, by decide +kernel, rfl, by decide +kernel, by decide +kernel⟩
theorem ok_is_integer (T : Tx K mg a) : FnOk P w K mg base (L2.CX P w) 1 a.f_is_integer a.d_is_integer ["thing", "least", "most"] (liftSp K 3 C_is_integer) := by
  refine fn_ok T.F_is_integer sc_is_integer (by decide) (fun cdv A outer s H E hr => ?_) pl_is_integer
  have tk : Takes (cxOf (L2.CX P w) P w K mg base N_is_integer "is_integer" (defScope s_is_integer) a.f_is_integer cdv A outer s H E) (fun cls d _ H => E cls d H) := takes_of rfl rfl rfl rfl
  exact (jss_one (js_ret (j_and (j_cb call_isi c_isi rfl T.z_isinstance (by decide +kernel) (ja_cons (j_var 0) (ja_cons (j_ty rfl T.z_int (by decide +kernel)) ja_nil))) (j_and (j_not (j_cb call_isi c_isi rfl T.z_isinstance (by decide +kernel) (ja_cons (j_var 0) (ja_cons (j_ty rfl T.z_bool (by decide +kernel)) ja_nil)))) (j_one (j_chain op_le p_le op_le p_le (j_var 1) (j_var 0) (j_var 2)))))))
theorem sc_is_end_of : FnScope N_is_end_of ["found", "roof", "number"] (defScope s_is_end_of) := ⟨rfl, rfl, rfl, by decide +kernel, rfl, by decide +kernel, by decide +kernel⟩
theorem ok_is_end_of (T : Tx K mg a) : FnOk P w K mg base (L2.CX P w) 1 a.f_is_end_of a.d_is_end_of ["found", "roof", "number"] (liftSp K 3 C_is_end_of) := by
  refine fn_ok T.F_is_end_of sc_is_end_of (by decide) (fun cdv A outer s H E hr => ?_) pl_is_end_of
  have tk : Takes (cxOf (L2.CX P w) P w K mg base N_is_end_of "is_end_of" (defScope s_is_end_of) a.f_is_end_of cdv A outer s H E) (fun cls d _ H => E cls d H) := takes_of rfl rfl rfl rfl
  exact (jss_cons (js_if (jt_cmp op_le p_le (j_var 2) (j_ix (j_var 0) (j_pure (t := .int (-1)) (j_neg j_int) (pu_neg pu_c))) (nomark _)) (jss_one (js_ret (j_cmp (op_inD (units65 hr)) p_in (j_var 2) (j_var 0) (by rfl)))) jss_nil)
    (jss_one (js_ret (j_cmp (op_eqD hr.units) p_eq (j_op op_mod p_mod (j_op op_sub p_sub (j_var 2) (j_ix (j_var 0) (j_pure (t := .int (-1)) (j_neg j_int) (pu_neg pu_c)))) (j_var 1)) j_int (nomark _)))))
theorem sc_part_of : FnScope N_part_of ["share", "hold"] (defScope s_part_of) := ⟨rfl, rfl, rfl, by decide +kernel, rfl, by decide +kernel, by decide +kernel⟩
theorem ok_part_of (T : Tx K mg a) : FnOk P w K mg base (L2.CX P w) 1 a.f_part_of a.d_part_of ["share", "hold"] (liftSp K 2 C_part_of) := by
  refine fn_ok T.F_part_of sc_part_of (by decide) (fun cdv A outer s H E hr => ?_) pl_part_of
  have tk : Takes (cxOf (L2.CX P w) P w K mg base N_part_of "part_of" (defScope s_part_of) a.f_part_of cdv A outer s H E) (fun cls d _ H => E cls d H) := takes_of rfl rfl rfl rfl
  exact (jss_cons (js_asg (j_var 0) (jg_tup rfl (jgs_cons (jg_name (i := 2) sc_part_of.nd rfl (by first | exact Or.inl rfl | exact Or.inr rfl)) (jgs_cons (jg_name (i := 3) sc_part_of.nd rfl (by first | exact Or.inl rfl | exact Or.inr rfl)) jgs_nil))))
    (jss_one (js_ret (j_neg (j_op op_fdivW p_div (j_op o_mul (p_mul true) (j_neg (j_var 1)) (j_var 2)) (j_var 3))))))
theorem sc_Book_roof : FnScope N_Book_roof ["self"] (defScope s_Book_roof) := ⟨rfl, rfl, rfl, by decide +kernel, rfl, by decide +kernel, by decide +kernel⟩
theorem ok_Book_roof (T : Tx K mg a) : FnOk P w K mg base (L2.CX P w) 1 a.f_Book_roof a.d_Book_roof ["self"] (liftSp K 1 (C_Book_roof a)) := by
  refine fn_ok T.F_Book_roof sc_Book_roof (by decide) (fun cdv A outer s H E hr => ?_) (pl_Book_roof T)
  have tk : Takes (cxOf (L2.CX P w) P w K mg base N_Book_roof "Book.roof" (defScope s_Book_roof) a.f_Book_roof cdv A outer s H E) (fun cls d _ H => E cls d H) := takes_of rfl rfl rfl rfl
  exact (jss_one (js_ret (j_fld T.cl_Book T.na_Book_own_roof (j_var 0))))
theorem sc_Book_parts : FnScope N_Book_parts ["self"] (defScope s_Book_parts) := ⟨rfl, rfl, rfl, by decide +kernel, rfl, by decide +kernel, by decide +kernel⟩
theorem ok_Book_parts (T : Tx K mg a) : FnOk P w K mg base (L2.CX P w) 1 a.f_Book_parts a.d_Book_parts ["self"] (liftSp K 1 (C_Book_parts a)) := by
  refine fn_ok T.F_Book_parts sc_Book_parts (by decide) (fun cdv A outer s H E hr => ?_) (pl_Book_parts T)
  have tk : Takes (cxOf (L2.CX P w) P w K mg base N_Book_parts "Book.parts" (defScope s_Book_parts) a.f_Book_parts cdv A outer s H E) (fun cls d _ H => E cls d H) := takes_of rfl rfl rfl rfl
  exact (jss_one (js_ret (j_tup (ja_cons (j_fld T.cl_Book T.na_Book_own_first (j_var 0)) (ja_cons (j_fld T.cl_Book T.na_Book_own_roof (j_var 0)) (ja_cons (j_fld T.cl_Book T.na_Book_own_share (j_var 0)) ja_nil))))))
theorem sc_law_hand : FnScope N_law_hand ["_law_script", "_law_k"] (defScope s_law_hand) := ⟨rfl, rfl, rfl, by decide +kernel, rfl, by decide +kernel, by decide +kernel⟩
theorem ok_law_hand (T : Tx K mg a) : FnOk P w K mg base (L2.CX P w) 1 a.f_law_hand a.d_law_hand ["_law_script", "_law_k"] (liftSp K 2 CHand) := by
  refine fn_wk (fn_ok T.F_law_hand sc_law_hand (by decide) (fun cdv A outer s H E hr => ?_) pl_law_hand) hand_wk
  have tk : Takes (cxOf (L2.CX P w) P w K mg base N_law_hand "_law_hand" (defScope s_law_hand) a.f_law_hand cdv A outer s H E) (fun cls d _ H => E cls d H) := takes_of rfl rfl rfl rfl
  exact (jss_cons (js_set (i := 2) sc_law_hand.nd rfl (by first | exact Or.inl rfl | exact Or.inr rfl) (j_ix (j_op o_add (p_add true) (j_sl true (j_var 0) (jo_some (j_var 1)) (jo_some (j_op o_add (p_add true) (j_var 1) j_int))) (j_pure (t := .lst [.int 0]) (j_lst true (ja_cons j_int ja_nil)) (pu_lst (pa_c pu_c pa_n) (by decide)))) j_int))
    (jss_cons (js_set (i := 3) sc_law_hand.nd rfl (by first | exact Or.inl rfl | exact Or.inr rfl) (j_op op_mod p_mod (j_op o_mul (p_mul true) (j_op o_add (p_add true) (j_op o_add (p_add true) (j_op op_mod p_mod (j_cty call_int1 c_int rfl T.z_int (by decide +kernel) (ja_cons (j_var 2) ja_nil)) j_int) (j_op o_mul (p_mul true) j_int (j_var 1))) j_int) j_int) j_int))
    (jss_one (js_ret (j_lst false (ja_cons (j_op o_mul (p_mul true) (j_cty call_int1 c_int rfl T.z_int (by decide +kernel) (ja_cons (j_cmp op_ge p_ge (j_var 2) (j_pure (t := .int (10 ^ 18)) (j_op op_pow p_pow j_int j_int) (pu_pow pu_c pu_c (by decide))) (nomark _)) ja_nil)) (j_var 2)) (ja_cons (j_var 3) ja_nil)))))))
theorem sc_law_draw : FnScope N_law_draw ["_law_pool", "_law_many"] (defScope s_law_draw) := ⟨rfl, rfl, rfl, by decide +kernel, rfl, by decide +kernel, by decide +kernel⟩
theorem ok_law_draw (T : Tx K mg a) : FnOk P w K mg base (L2.CX P w) 1 a.f_law_draw a.d_law_draw ["_law_pool", "_law_many"] (liftSp K 2 CDraw) := by
  refine fn_wk (fn_ok T.F_law_draw sc_law_draw (by decide) (fun cdv A outer s H E hr => ?_) pl_law_draw) draw_wk
  have tk : Takes (cxOf (L2.CX P w) P w K mg base N_law_draw "_law_draw" (defScope s_law_draw) a.f_law_draw cdv A outer s H E) (fun cls d _ H => E cls d H) := takes_of rfl rfl rfl rfl
  exact (jss_cons (js_if (jt_cmp op_gt p_gt (j_ix (j_var 0) j_int) j_int (nomark _)) (jss_cons (js_set (i := 2) sc_law_draw.nd rfl (by first | exact Or.inl rfl | exact Or.inr rfl) (j_op op_mod p_mod (j_cty call_int1 c_int rfl T.z_int (by decide +kernel) (ja_cons (j_ix (j_var 0) j_int) ja_nil)) (j_var 1)))
    (jss_cons (js_asg (j_op op_fdivW p_div (j_ix (j_var 0) j_int) (j_var 1)) (jg_sub (j_var 0) j_int))
    (jss_one (js_ret (j_var 2))))) jss_nil)
    (jss_cons (js_asg (j_op op_mod p_mod (j_cty call_int1 c_int rfl T.z_int (by decide +kernel) (ja_cons (j_op o_add (p_add true) (j_op o_mul (p_mul true) (j_ix (j_var 0) j_int) j_int) j_int) ja_nil)) j_int) (jg_sub (j_var 0) j_int))
    (jss_one (js_ret (j_op op_mod p_mod (j_op op_fdivW p_div (j_op op_mod p_mod (j_cty call_int1 c_int rfl T.z_int (by decide +kernel) (ja_cons (j_op o_mul (p_mul true) (j_ix (j_var 0) j_int) (j_ix (j_var 0) j_int)) ja_nil)) j_int) j_int) (j_var 1))))))
theorem sc_law_step : FnScope N_law_step ["_law_parts_here", "_law_hold"] (defScope s_law_step) := ⟨rfl, rfl, rfl, by decide +kernel, rfl, by decide +kernel, by decide +kernel⟩
theorem ok_law_step (T : Tx K mg a) : FnOk P w K mg base (L2.CX P w) 1 a.f_law_step a.d_law_step ["_law_parts_here", "_law_hold"] (liftSp K 2 C_law_step) := by
  refine fn_ok T.F_law_step sc_law_step (by decide) (fun cdv A outer s H E hr => ?_) pl_law_step
  have tk : Takes (cxOf (L2.CX P w) P w K mg base N_law_step "_law_step" (defScope s_law_step) a.f_law_step cdv A outer s H E) (fun cls d _ H => E cls d H) := takes_of rfl rfl rfl rfl
  exact (jss_cons (js_asg (j_var 0) (jg_tup rfl (jgs_cons (jg_name (i := 2) sc_law_step.nd rfl (by first | exact Or.inl rfl | exact Or.inr rfl)) (jgs_cons (jg_name (i := 3) sc_law_step.nd rfl (by first | exact Or.inl rfl | exact Or.inr rfl)) (jgs_cons (jg_name (i := 4) sc_law_step.nd rfl (by first | exact Or.inl rfl | exact Or.inr rfl)) jgs_nil)))))
    (jss_one (js_ret (j_cb (call_minA rfl) c_min rfl T.z_min (by decide +kernel) (ja_cons (j_cty call_int1 c_int rfl T.z_int (by decide +kernel) (ja_cons (j_var 3) ja_nil)) (ja_cons (j_cb (call_maxA rfl) c_max rfl T.z_max (by decide +kernel) (ja_cons (j_cty call_int1 c_int rfl T.z_int (by decide +kernel) (ja_cons (j_var 2) ja_nil)) (ja_cons (j_op op_fdivW p_div (j_op op_sub p_sub (j_op o_add (p_add true) (j_op o_mul (p_mul true) (j_var 1) (j_ix (j_var 4) j_int)) (j_ix (j_var 4) j_int)) j_int) (j_ix (j_var 4) j_int)) ja_nil))) ja_nil))))))
theorem sc_is_share : FnScope N_is_share ["thing"] (defScope s_is_share) := ⟨rfl, rfl, rfl, by decide +kernel, rfl, by decide +kernel, by decide +kernel⟩
theorem ok_is_share (T : Tx K mg a) : FnOk P w K mg base (L2.CX P w) 2 a.f_is_share a.d_is_share ["thing"] (liftSp K 1 C_is_share) := by
  refine fn_ok T.F_is_share sc_is_share (by decide) (fun cdv A outer s H E hr => ?_) pl_is_share
  have tk : Takes (cxOf (L2.CX P w) P w K mg base N_is_share "is_share" (defScope s_is_share) a.f_is_share cdv A outer s H E) (fun cls d _ H => E cls d H) := takes_of rfl rfl rfl rfl
  exact (jss_cons (js_if (jt_w (jw_or (jt_not (jt_tru (j_cb call_isi c_isi rfl T.z_isinstance (by decide +kernel) (ja_cons (j_var 0) (ja_cons (j_ty rfl T.z_tuple (by decide +kernel)) ja_nil))))) (jw_or1 (jt_cmp (op_neD hr.units) p_ne (j_cb call_len c_len rfl T.z_len (by decide +kernel) (ja_cons (j_var 0) ja_nil)) j_int (nomark _))))) (jss_one (js_ret j_bl)) jss_nil)
    (jss_one (js_ret (j_and (j_frz (j_call (ok_is_integer T) (hr.mono (by decide)) rfl T.g_is_integer T.F_is_integer.kp T.b_is_integer (pxT tk) (ja_cons (j_ix (j_var 0) j_int) (ja_cons j_int (ja_cons (j_globI rfl (T.c_MOST_SHARE).choose_spec) ja_nil))))) (j_one (j_frz (j_call (ok_is_integer T) (hr.mono (by decide)) rfl T.g_is_integer T.F_is_integer.kp T.b_is_integer (pxT tk) (ja_cons (j_ix (j_var 0) j_int) (ja_cons j_int (ja_cons (j_globI rfl (T.c_MOST_SHARE).choose_spec) ja_nil))))))))))
theorem sc_Book_given : FnScope N_Book_given ["self", "hold"] (defScope s_Book_given) := ⟨rfl, rfl, rfl, by decide +kernel, rfl, by decide +kernel, by decide +kernel⟩
theorem ok_Book_given (T : Tx K mg a) : FnOk P w K mg base (L2.CX P w) 2 a.f_Book_given a.d_Book_given ["self", "hold"] (liftSp K 2 (C_Book_given a)) := by
  refine fn_ok T.F_Book_given sc_Book_given (by decide) (fun cdv A outer s H E hr => ?_) (pl_Book_given T)
  have tk : Takes (cxOf (L2.CX P w) P w K mg base N_Book_given "Book.given" (defScope s_Book_given) a.f_Book_given cdv A outer s H E) (fun cls d _ H => E cls d H) := takes_of rfl rfl rfl rfl
  exact (jss_cons (js_set (i := 2) sc_Book_given.nd rfl (by first | exact Or.inl rfl | exact Or.inr rfl) (j_frz (j_call (ok_part_of T) (hr.mono (by decide)) rfl T.g_part_of T.F_part_of.kp T.b_part_of (pxT tk) (ja_cons (j_fld T.cl_Book T.na_Book_own_share (j_var 0)) (ja_cons (j_var 1) ja_nil)))))
    (jss_cons (js_if (jt_cmp op_lt p_lt (j_var 2) (j_fld T.cl_Book T.na_Book_own_first (j_var 0)) (nomark _)) (jss_one (js_ret (j_fld T.cl_Book T.na_Book_own_first (j_var 0)))) jss_nil)
    (jss_one (js_ret (j_if (jt_cmp op_lt p_lt (j_var 2) (j_fld T.cl_Book T.na_Book_own_roof (j_var 0)) (nomark _)) (j_var 2) (j_fld T.cl_Book T.na_Book_own_roof (j_var 0)))))))
theorem sc_Book___eq__ : FnScope N_Book___eq__ ["self", "other"] (defScope s_Book___eq__) := ⟨rfl, rfl, rfl, by decide +kernel, rfl, by decide +kernel, by decide +kernel⟩
theorem ok_Book___eq__ (T : Tx K mg a) : FnOk P w K mg base (L2.CX P w) 2 a.f_Book___eq__ a.d_Book___eq__ ["self", "other"] (liftSp K 2 (C_Book___eq__ a)) := by
  refine fn_ok T.F_Book___eq__ sc_Book___eq__ (by decide) (fun cdv A outer s H E hr => ?_) (pl_Book___eq__ T)
  have tk : Takes (cxOf (L2.CX P w) P w K mg base N_Book___eq__ "Book.__eq__" (defScope s_Book___eq__) a.f_Book___eq__ cdv A outer s H E) (fun cls d _ H => E cls d H) := takes_of rfl rfl rfl rfl
  exact (jss_one (js_ret (j_and (j_cb call_isi c_isiC rfl T.z_isinstance (by decide +kernel) (ja_cons (j_var 1) (ja_cons (j_globR rfl T.g_Book) ja_nil))) (j_one (j_cmp (op_eqD hr.units) p_eq (j_frz (j_meth0 T.cl_Book T.me_Book_parts (ok_Book_parts T) (hr.mono (by decide)) T.b_Book_parts (pxT tk) (j_var 0))) (j_frz (j_meth0 T.cl_Book T.me_Book_parts (ok_Book_parts T) (hr.mono (by decide)) T.b_Book_parts (pxT tk) (j_var 1))) (nomark _))))))
theorem sc_law_parts : FnScope N_law_parts ["_law_pool"] (defScope s_law_parts) := ⟨rfl, rfl, rfl, by decide +kernel, rfl, by decide +kernel, by decide +kernel⟩
theorem ok_law_parts (T : Tx K mg a) : FnOk P w K mg base (L2.CX P w) 2 a.f_law_parts a.d_law_parts ["_law_pool"] (liftSp K 1 C_law_parts) := by
  refine fn_ok T.F_law_parts sc_law_parts (by decide) (fun cdv A outer s H E hr => ?_) pl_law_parts
  have tk : Takes (cxOf (L2.CX P w) P w K mg base N_law_parts "_law_parts" (defScope s_law_parts) a.f_law_parts cdv A outer s H E) (fun cls d _ H => E cls d H) := takes_of rfl rfl rfl rfl
  exact (jss_cons (js_set (i := 1) sc_law_parts.nd rfl (by first | exact Or.inl rfl | exact Or.inr rfl) (j_ix (j_pure (t := .lst [.int 1, .int 1, .int 2, .int 3, .int 4, .int 7]) (j_lst true (ja_cons j_int (ja_cons j_int (ja_cons j_int (ja_cons j_int (ja_cons j_int (ja_cons j_int ja_nil))))))) (pu_lst (pa_c pu_c (pa_c pu_c (pa_c pu_c (pa_c pu_c (pa_c pu_c (pa_c pu_c pa_n)))))) (by decide))) (j_frz (j_call (ok_law_draw T) (hr.mono (by decide)) rfl T.g_law_draw T.F_law_draw.kp T.b_law_draw (pxT tk) (ja_cons (j_var 0) (ja_cons j_int ja_nil))))))
    (jss_cons (js_set (i := 2) sc_law_parts.nd rfl (by first | exact Or.inl rfl | exact Or.inr rfl) (j_op o_add (p_add true) (j_var 1) (j_ix (j_pure (t := .lst [.int 0, .int 0, .int 1, .int 5, .int 20, .int 100]) (j_lst true (ja_cons j_int (ja_cons j_int (ja_cons j_int (ja_cons j_int (ja_cons j_int (ja_cons j_int ja_nil))))))) (pu_lst (pa_c pu_c (pa_c pu_c (pa_c pu_c (pa_c pu_c (pa_c pu_c (pa_c pu_c pa_n)))))) (by decide))) (j_frz (j_call (ok_law_draw T) (hr.mono (by decide)) rfl T.g_law_draw T.F_law_draw.kp T.b_law_draw (pxT tk) (ja_cons (j_var 0) (ja_cons j_int ja_nil)))))))
    (jss_cons (js_set (i := 3) sc_law_parts.nd rfl (by first | exact Or.inl rfl | exact Or.inr rfl) (j_tup (ja_cons (j_op o_add (p_add true) j_int (j_frz (j_call (ok_law_draw T) (hr.mono (by decide)) rfl T.g_law_draw T.F_law_draw.kp T.b_law_draw (pxT tk) (ja_cons (j_var 0) (ja_cons j_int ja_nil))))) (ja_cons (j_op o_add (p_add true) j_int (j_frz (j_call (ok_law_draw T) (hr.mono (by decide)) rfl T.g_law_draw T.F_law_draw.kp T.b_law_draw (pxT tk) (ja_cons (j_var 0) (ja_cons j_int ja_nil))))) ja_nil))))
    (jss_cons (js_set (i := 4) sc_law_parts.nd rfl (by first | exact Or.inl rfl | exact Or.inr rfl) (j_ix (j_lst true (ja_cons (j_pure (t := .tup [.int 1, .int 1]) (j_tup (ja_cons j_int (ja_cons j_int ja_nil))) (pu_tup (pa_c pu_c (pa_c pu_c pa_n)) (by decide))) (ja_cons (j_pure (t := .tup [.int 1, .int 1]) (j_tup (ja_cons j_int (ja_cons j_int ja_nil))) (pu_tup (pa_c pu_c (pa_c pu_c pa_n)) (by decide))) (ja_cons (j_pure (t := .tup [.int 1, .int 2]) (j_tup (ja_cons j_int (ja_cons j_int ja_nil))) (pu_tup (pa_c pu_c (pa_c pu_c pa_n)) (by decide))) (ja_cons (j_pure (t := .tup [.int 2, .int 3]) (j_tup (ja_cons j_int (ja_cons j_int ja_nil))) (pu_tup (pa_c pu_c (pa_c pu_c pa_n)) (by decide))) (ja_cons (j_pure (t := .tup [.int 1, .int 10]) (j_tup (ja_cons j_int (ja_cons j_int ja_nil))) (pu_tup (pa_c pu_c (pa_c pu_c pa_n)) (by decide))) (ja_cons (j_var 3) ja_nil))))))) (j_frz (j_call (ok_law_draw T) (hr.mono (by decide)) rfl T.g_law_draw T.F_law_draw.kp T.b_law_draw (pxT tk) (ja_cons (j_var 0) (ja_cons j_int ja_nil))))))
    (jss_one (js_ret (j_tup (ja_cons (j_var 1) (ja_cons (j_var 2) (ja_cons (j_var 4) ja_nil))))))))))
theorem sc_law_great : FnScope N_law_great ["_law_pool"] (defScope s_law_great) := ⟨rfl, rfl, rfl, by decide +kernel, rfl, by decide +kernel, by decide +kernel⟩
theorem ok_law_great (T : Tx K mg a) : FnOk P w K mg base (L2.CX P w) 2 a.f_law_great a.d_law_great ["_law_pool"] (liftSp K 1 C_law_great) := by
  refine fn_ok T.F_law_great sc_law_great (by decide) (fun cdv A outer s H E hr => ?_) pl_law_great
  have tk : Takes (cxOf (L2.CX P w) P w K mg base N_law_great "_law_great" (defScope s_law_great) a.f_law_great cdv A outer s H E) (fun cls d _ H => E cls d H) := takes_of rfl rfl rfl rfl
  exact (jss_cons (js_set (i := 1) sc_law_great.nd rfl (by first | exact Or.inl rfl | exact Or.inr rfl) (j_op o_add (p_add true) j_int (j_frz (j_call (ok_law_draw T) (hr.mono (by decide)) rfl T.g_law_draw T.F_law_draw.kp T.b_law_draw (pxT tk) (ja_cons (j_var 0) (ja_cons (j_ix (j_pure (t := .lst [.int 10, .int 100, .int (10 ^ 9), .int (10 ^ 30)]) (j_lst true (ja_cons j_int (ja_cons j_int (ja_cons (j_pure (t := .int (10 ^ 9)) (j_op op_pow p_pow j_int j_int) (pu_pow pu_c pu_c (by decide))) (ja_cons (j_pure (t := .int (10 ^ 30)) (j_op op_pow p_pow j_int j_int) (pu_pow pu_c pu_c (by decide))) ja_nil))))) (pu_lst (pa_c pu_c (pa_c pu_c (pa_c pu_c (pa_c pu_c pa_n)))) (by decide))) (j_frz (j_call (ok_law_draw T) (hr.mono (by decide)) rfl T.g_law_draw T.F_law_draw.kp T.b_law_draw (pxT tk) (ja_cons (j_var 0) (ja_cons j_int ja_nil))))) ja_nil))))))
    (jss_cons (js_set (i := 2) sc_law_great.nd rfl (by first | exact Or.inl rfl | exact Or.inr rfl) (j_frz (j_call (ok_law_draw T) (hr.mono (by decide)) rfl T.g_law_draw T.F_law_draw.kp T.b_law_draw (pxT tk) (ja_cons (j_var 0) (ja_cons (j_ix (j_pure (t := .lst [.int 10, .int 1000, .int (10 ^ 12), .int (10 ^ 30)]) (j_lst true (ja_cons j_int (ja_cons j_int (ja_cons (j_pure (t := .int (10 ^ 12)) (j_op op_pow p_pow j_int j_int) (pu_pow pu_c pu_c (by decide))) (ja_cons (j_pure (t := .int (10 ^ 30)) (j_op op_pow p_pow j_int j_int) (pu_pow pu_c pu_c (by decide))) ja_nil))))) (pu_lst (pa_c pu_c (pa_c pu_c (pa_c pu_c (pa_c pu_c pa_n)))) (by decide))) (j_frz (j_call (ok_law_draw T) (hr.mono (by decide)) rfl T.g_law_draw T.F_law_draw.kp T.b_law_draw (pxT tk) (ja_cons (j_var 0) (ja_cons j_int ja_nil))))) ja_nil)))))
    (jss_one (js_ret (j_tup (ja_cons (j_var 1) (ja_cons (j_cb (call_minA rfl) c_min rfl T.z_min (by decide +kernel) (ja_cons (j_pure (t := .int (10 ^ 30)) (j_op op_pow p_pow j_int j_int) (pu_pow pu_c pu_c (by decide))) (ja_cons (j_op o_add (p_add true) (j_var 1) (j_var 2)) ja_nil))) (ja_cons (j_tup (ja_cons (j_op o_add (p_add true) j_int (j_frz (j_call (ok_law_draw T) (hr.mono (by decide)) rfl T.g_law_draw T.F_law_draw.kp T.b_law_draw (pxT tk) (ja_cons (j_var 0) (ja_cons j_int ja_nil))))) (ja_cons (j_op o_add (p_add true) j_int (j_frz (j_call (ok_law_draw T) (hr.mono (by decide)) rfl T.g_law_draw T.F_law_draw.kp T.b_law_draw (pxT tk) (ja_cons (j_var 0) (ja_cons j_int ja_nil))))) ja_nil))) ja_nil))))))))
theorem sc_law_ends : FnScope N_law_ends ["_law_parts_here", "_law_many"] (defScope s_law_ends) := ⟨rfl, rfl, rfl, by decide +kernel, rfl, by decide +kernel, by decide +kernel⟩
theorem ok_law_ends (T : Tx K mg a) : FnOk P w K mg base (L2.CX P w) 2 a.f_law_ends a.d_law_ends ["_law_parts_here", "_law_many"] (liftSp K 2 C_law_ends) := by
  refine fn_ok T.F_law_ends sc_law_ends (by decide) (fun cdv A outer s H E hr => ?_) pl_law_ends
  have tk : Takes (cxOf (L2.CX P w) P w K mg base N_law_ends "_law_ends" (defScope s_law_ends) a.f_law_ends cdv A outer s H E) (fun cls d _ H => E cls d H) := takes_of rfl rfl rfl rfl
  exact (jss_cons (js_set (i := 2) sc_law_ends.nd rfl (by first | exact Or.inl rfl | exact Or.inr rfl) (j_lst false (ja_cons j_int ja_nil)))
    (jss_cons (js_for (passes_of rfl) rfl (ji_range1 rfl T.z_range (ja_cons (j_var 1) ja_nil)) (jg_name (i := 3) sc_law_ends.nd rfl (by first | exact Or.inl rfl | exact Or.inr rfl)) (jss_one (js_expr (j_bm PySem.F.plainAttrs_list PySem.F.slot_list_append PySem.F.type_list_append mt_append ty_list c_app (j_var 2) (ja_cons (j_op o_add (p_add true) (j_ix (j_var 2) (j_pure (t := .int (-1)) (j_neg j_int) (pu_neg pu_c))) (j_frz (j_call (ok_law_step T) (hr.mono (by decide)) rfl T.g_law_step T.F_law_step.kp T.b_law_step (pxT tk) (ja_cons (j_var 0) (ja_cons (j_ix (j_var 2) (j_pure (t := .int (-1)) (j_neg j_int) (pu_neg pu_c))) ja_nil))))) ja_nil)))))
    (jss_one (js_ret (j_var 2)))))
theorem sc_check_integer : FnScope N_check_integer ["thing", "least", "most"] (defScope s_check_integer) := ⟨rfl, rfl, rfl, by decide +kernel, rfl, by decide +kernel, by decide +kernel⟩
theorem ok_check_integer (T : Tx K mg a) : FnOk P w K mg base (L2.CX P w) 3 a.f_check_integer a.d_check_integer ["thing", "least", "most"] (liftSp K 3 (C_check_integer a)) := by
  refine fn_ok T.F_check_integer sc_check_integer (by decide) (fun cdv A outer s H E hr => ?_) (pl_check_integer T)
  have tk : Takes (cxOf (L2.CX P w) P w K mg base N_check_integer "check_integer" (defScope s_check_integer) a.f_check_integer cdv A outer s H E) (fun cls d _ H => E cls d H) := takes_of rfl rfl rfl rfl
  exact (jss_one (js_if (jt_not (jt_tru (j_frz (j_call (ok_is_integer T) (hr.mono (by decide)) rfl T.g_is_integer T.F_is_integer.kp T.b_is_integer (pxT tk) (ja_cons (j_var 0) (ja_cons (j_var 1) (ja_cons (j_var 2) ja_nil))))))) (jss_one (js_raise T.o_InvalidNumber T.i_InvalidNumber T.t_InvalidNumber (okI_InvalidNumber T) T.BI_InvalidNumber (hr.mono (by decide)) rfl tk rfl T.g_InvalidNumber (ja_cons (j_var 0) ja_nil))) jss_nil))
theorem sc_check_parts : FnScope N_check_parts ["first", "roof", "share", "ahead"] (defScope s_check_parts) := ⟨rfl, rfl, rfl, by decide +kernel, rfl, by decide +kernel, by decide +kernel⟩
theorem ok_check_parts (T : Tx K mg a) : FnOk P w K mg base (L2.CX P w) 3 a.f_check_parts a.d_check_parts ["first", "roof", "share", "ahead"] (liftSp K 4 C_check_parts) := by
  refine fn_ok T.F_check_parts sc_check_parts (by decide) (fun cdv A outer s H E hr => ?_) (pl_check_parts T)
  have tk : Takes (cxOf (L2.CX P w) P w K mg base N_check_parts "check_parts" (defScope s_check_parts) a.f_check_parts cdv A outer s H E) (fun cls d _ H => E cls d H) := takes_of rfl rfl rfl rfl
  exact (jss_cons (js_if (jt_not (jt_tru (j_frz (j_call (ok_is_integer T) (hr.mono (by decide)) rfl T.g_is_integer T.F_is_integer.kp T.b_is_integer (pxT tk) (ja_cons (j_var 0) (ja_cons j_int (ja_cons (j_globI rfl (T.c_MOST_GROWTH_checks).choose_spec) ja_nil))))))) (jss_one (js_raise T.o_InvalidBook T.i_InvalidBook T.t_InvalidBook (okI_InvalidBook T) T.BI_InvalidBook (hr.mono (by decide)) rfl tk rfl T.g_InvalidBook (ja_cons j_str ja_nil))) jss_nil)
    (jss_cons (js_if (jt_w (jw_or (jt_not (jt_tru (j_frz (j_call (ok_is_integer T) (hr.mono (by decide)) rfl T.g_is_integer T.F_is_integer.kp T.b_is_integer (pxT tk) (ja_cons (j_var 1) (ja_cons j_int (ja_cons (j_globI rfl (T.c_MOST_GROWTH_checks).choose_spec) ja_nil))))))) (jw_or1 (jt_cmp op_lt p_lt (j_var 1) (j_var 0) (nomark _))))) (jss_one (js_raise T.o_InvalidBook T.i_InvalidBook T.t_InvalidBook (okI_InvalidBook T) T.BI_InvalidBook (hr.mono (by decide)) rfl tk rfl T.g_InvalidBook (ja_cons (j_var 3) ja_nil))) jss_nil)
    (jss_one (js_if (jt_not (jt_tru (j_frz (j_call (ok_is_share T) (hr.mono (by decide)) rfl T.g_is_share T.F_is_share.kp T.b_is_share (pxT tk) (ja_cons (j_var 2) ja_nil))))) (jss_one (js_raise T.o_InvalidBook T.i_InvalidBook T.t_InvalidBook (okI_InvalidBook T) T.BI_InvalidBook (hr.mono (by decide)) rfl tk rfl T.g_InvalidBook (ja_cons j_str ja_nil))) jss_nil))))
theorem sc_Book___init__ : FnScope N_Book___init__ ["self", "first", "roof", "share"] (defScope s_Book___init__) := ⟨rfl, rfl, rfl, by decide +kernel, rfl, by decide +kernel, by decide +kernel⟩
theorem ok_Book___init__ (T : Tx K mg a) : FnOk P w K mg base (L2.CX P w) 4 a.f_Book___init__ a.d_Book___init__ ["self", "first", "roof", "share"] (liftSp K 4 (C_Book___init__ a)) := by
  refine fn_ok T.F_Book___init__ sc_Book___init__ (by decide) (fun cdv A outer s H E hr => ?_) (pl_Book___init__ T)
  have tk : Takes (cxOf (L2.CX P w) P w K mg base N_Book___init__ "Book.__init__" (defScope s_Book___init__) a.f_Book___init__ cdv A outer s H E) (fun cls d _ H => E cls d H) := takes_of rfl rfl rfl rfl
  exact (jss_cons (js_expr (j_frz (j_call (ok_check_parts T) (hr.mono (by decide)) rfl T.g_check_parts T.F_check_parts.kp T.b_check_parts (pxT tk) (ja_cons (j_var 1) (ja_cons (j_var 2) (ja_cons (j_var 3) (ja_cons j_str ja_nil)))))))
    (jss_cons (js_fld T.cl_Book T.na_Book_own_first (j_var 0) (j_var 1))
    (jss_cons (js_fld T.cl_Book T.na_Book_own_roof (j_var 0) (j_var 2))
    (jss_one (js_fld T.cl_Book T.na_Book_own_share (j_var 0) (j_var 3))))))
theorem sc_Book_step : FnScope N_Book_step ["self", "hold"] (defScope s_Book_step) := ⟨rfl, rfl, rfl, by decide +kernel, rfl, by decide +kernel, by decide +kernel⟩
theorem ok_Book_step (T : Tx K mg a) : FnOk P w K mg base (L2.CX P w) 4 a.f_Book_step a.d_Book_step ["self", "hold"] (liftSp K 2 (C_Book_step a)) := by
  refine fn_ok T.F_Book_step sc_Book_step (by decide) (fun cdv A outer s H E hr => ?_) (pl_Book_step T)
  have tk : Takes (cxOf (L2.CX P w) P w K mg base N_Book_step "Book.step" (defScope s_Book_step) a.f_Book_step cdv A outer s H E) (fun cls d _ H => E cls d H) := takes_of rfl rfl rfl rfl
  exact (jss_cons (js_expr (j_frz (j_call (ok_check_integer T) (hr.mono (by decide)) rfl T.g_check_integer T.F_check_integer.kp T.b_check_integer (pxT tk) (ja_cons (j_var 1) (ja_cons j_int (ja_cons (j_globI rfl (T.c_MOST).choose_spec) ja_nil))))))
    (jss_one (js_ret (j_meth T.cl_Book T.me_Book_given (ok_Book_given T) (hr.mono (by decide)) T.b_Book_given (pxT tk) (j_var 0) (ja_cons (j_var 1) ja_nil)))))
theorem sc_ramp : FnScope N_ramp ["book"] (defScope s_ramp) := ⟨rfl, rfl, rfl, by decide +kernel, rfl, by decide +kernel, by decide +kernel⟩
theorem ok_ramp (T : Tx K mg a) : FnOk P w K mg base (L2.CX P w) 5 a.f_ramp a.d_ramp ["book"] (liftSp K 1 (C_ramp a)) := by
  refine fn_ok T.F_ramp sc_ramp (by decide) (fun cdv A outer s H E hr => ?_) (pl_ramp T)
  have tk : Takes (cxOf (L2.CX P w) P w K mg base N_ramp "ramp" (defScope s_ramp) a.f_ramp cdv A outer s H E) (fun cls d _ H => E cls d H) := takes_of rfl rfl rfl rfl
  exact (jss_cons (js_set (i := 1) sc_ramp.nd rfl (by first | exact Or.inl rfl | exact Or.inr rfl) (j_lst false (ja_cons j_int ja_nil)))
    (jss_cons (js_set (i := 2) sc_ramp.nd rfl (by first | exact Or.inl rfl | exact Or.inr rfl) (j_prop rfl rfl T.cl_Book T.pr_Book_roof (ok_Book_roof T) (hr.mono (by decide)) T.b_Book_roof (j_var 0)))
    (jss_cons (js_set (i := 3) sc_ramp.nd rfl (by first | exact Or.inl rfl | exact Or.inr rfl) (j_frz (j_meth T.cl_Book T.me_Book_step (ok_Book_step T) (hr.mono (by decide)) T.b_Book_step (pxT tk) (j_var 0) (ja_cons j_int ja_nil))))
    (jss_cons (js_while (passes_of rfl) (jt_cmp op_lt p_lt (j_var 3) (j_var 2) (nomark _)) (jss_cons (js_expr (j_bm PySem.F.plainAttrs_list PySem.F.slot_list_append PySem.F.type_list_append mt_append ty_list c_app (j_var 1) (ja_cons (j_op o_add (p_add true) (j_ix (j_var 1) (j_pure (t := .int (-1)) (j_neg j_int) (pu_neg pu_c))) (j_var 3)) ja_nil)))
    (jss_one (js_set (i := 3) sc_ramp.nd rfl (by first | exact Or.inl rfl | exact Or.inr rfl) (j_frz (j_meth T.cl_Book T.me_Book_step (ok_Book_step T) (hr.mono (by decide)) T.b_Book_step (pxT tk) (j_var 0) (ja_cons (j_ix (j_var 1) (j_pure (t := .int (-1)) (j_neg j_int) (pu_neg pu_c))) ja_nil)))))))
    (jss_one (js_ret (j_var 1)))))))
theorem sc_ends : GScope N_ends ["book", "most"] (defScope s_ends) := ⟨rfl, rfl, rfl, by decide +kernel, rfl, by decide +kernel, by decide +kernel⟩
theorem ok_ends (T : Tx K mg a) : GFnY P w K mg base 5 a.f_ends a.d_ends ["book", "most"] (liftSpG K 2 (C_ends a)) := by
  refine gfnY_ok T.F_ends sc_ends (by decide) (fun cdv A outer s H E pn hr => ?_) (pl_ends T)
  have tk : ∀ u, Takes (gX P w K mg base N_ends "ends" (defScope s_ends) a.f_ends cdv A outer s H E pn u) (fun cls d _ H => E cls d H) := takes_gX
  exact (jzs_cons (jz_plain (fun u => have tk := tk u; (js_expr (j_frz (j_call (ok_check_integer T) (hr.mono (by decide)) rfl T.g_check_integer T.F_check_integer.kp T.b_check_integer (pxT tk) (ja_cons (j_var 1) (ja_cons j_int (ja_cons (j_globI rfl (T.c_MOST_NUMBER).choose_spec) ja_nil))))))))
    (jzs_cons (jz_plain (fun u => have tk := tk u; (js_set (i := 2) sc_ends.nd rfl (by first | exact Or.inl rfl | exact Or.inr rfl) j_int)))
    (jzs_cons (jz_while (owns_gX (K := K) (mg := mg) (base := base) (N := N_ends)) (fun u => have tk := tk u; (jt_cmp op_le p_le (j_var 2) (j_var 1) (nomark _))) (jzs_cons (jz_yield (fun u => have tk := tk u; (j_var 2)))
    (jzs_cons (jz_plain (fun u => have tk := tk u; (js_aug (i := 2) sc_ends.nd rfl (by first | exact Or.inl rfl | exact Or.inr rfl) (j_frz (j_meth T.cl_Book T.me_Book_step (ok_Book_step T) (hr.mono (by decide)) T.b_Book_step (pxT tk) (j_var 0) (ja_cons (j_var 2) ja_nil))) ip_add p_iadd)))
    jzs_nil)))
    jzs_nil)))
theorem okN_ends (T : Tx K mg a) : GFnN P w K mg base 5 a.f_ends a.d_ends ["book", "most"] (liftSpN K 2 (C0_ends a)) := by
  refine gfnN_ok T.F_ends sc_ends (by decide) (fun cdv A outer s H E pn hr => ?_) (pl0_ends T)
  have tk : Takes (gcxOf P w K mg base N_ends "ends" (defScope s_ends) a.f_ends cdv A outer s H E pn) (fun cls d _ H => E cls d H) := takes_gcx
  exact (jss_cons (js_expr (j_frz (j_call (ok_check_integer T) (hr.mono (by decide)) rfl T.g_check_integer T.F_check_integer.kp T.b_check_integer (pxT tk) (ja_cons (j_var 1) (ja_cons j_int (ja_cons (j_globI rfl (T.c_MOST_NUMBER).choose_spec) ja_nil))))))
    (jss_cons (js_set (i := 2) sc_ends.nd rfl (by first | exact Or.inl rfl | exact Or.inr rfl) j_int)
    (jss_one js_never)))
theorem sc_end_at : FnScope N_end_at ["book", "number"] (defScope s_end_at) := ⟨rfl, rfl, rfl, by decide +kernel, rfl, by decide +kernel, by decide +kernel⟩
theorem ok_end_at (T : Tx K mg a) : FnOk P w K mg base (L2.CX P w) 6 a.f_end_at a.d_end_at ["book", "number"] (liftSp K 2 (C_end_at a)) := by
  refine fn_ok T.F_end_at sc_end_at (by decide) (fun cdv A outer s H E hr => ?_) (pl_end_at T)
  have tk : Takes (cxOf (L2.CX P w) P w K mg base N_end_at "end_at" (defScope s_end_at) a.f_end_at cdv A outer s H E) (fun cls d _ H => E cls d H) := takes_of rfl rfl rfl rfl
  exact (jss_cons (js_set (i := 2) sc_end_at.nd rfl (by first | exact Or.inl rfl | exact Or.inr rfl) (j_frz (j_call (ok_ramp T) (hr.mono (by decide)) rfl T.g_ramp T.F_ramp.kp T.b_ramp (pxT tk) (ja_cons (j_var 0) ja_nil))))
    (jss_cons (js_if (jt_cmp op_lt p_lt (j_var 1) (j_cb call_len c_len rfl T.z_len (by decide +kernel) (ja_cons (j_var 2) ja_nil)) (nomark _)) (jss_one (js_ret (j_ix (j_var 2) (j_var 1)))) jss_nil)
    (jss_one (js_ret (j_op o_add (p_add false) (j_ix (j_var 2) (j_pure (t := .int (-1)) (j_neg j_int) (pu_neg pu_c))) (j_op o_mul (p_mul true) (j_op o_add (p_add true) (j_op op_sub p_sub (j_var 1) (j_cb call_len c_len rfl T.z_len (by decide +kernel) (ja_cons (j_var 2) ja_nil))) j_int) (j_prop rfl rfl T.cl_Book T.pr_Book_roof (ok_Book_roof T) (hr.mono (by decide)) T.b_Book_roof (j_var 0))))))))
theorem sc_is_end : FnScope N_is_end ["book", "number"] (defScope s_is_end) := ⟨rfl, rfl, rfl, by decide +kernel, rfl, by decide +kernel, by decide +kernel⟩
theorem ok_is_end (T : Tx K mg a) : FnOk P w K mg base (L2.CX P w) 6 a.f_is_end a.d_is_end ["book", "number"] (liftSp K 2 (C_is_end a)) := by
  refine fn_ok T.F_is_end sc_is_end (by decide) (fun cdv A outer s H E hr => ?_) (pl_is_end T)
  have tk : Takes (cxOf (L2.CX P w) P w K mg base N_is_end "is_end" (defScope s_is_end) a.f_is_end cdv A outer s H E) (fun cls d _ H => E cls d H) := takes_of rfl rfl rfl rfl
  exact (jss_cons (js_expr (j_frz (j_call (ok_check_integer T) (hr.mono (by decide)) rfl T.g_check_integer T.F_check_integer.kp T.b_check_integer (pxT tk) (ja_cons (j_var 1) (ja_cons j_int (ja_cons (j_globI rfl (T.c_MOST_NUMBER).choose_spec) ja_nil))))))
    (jss_one (js_ret (j_call (ok_is_end_of T) (hr.mono (by decide)) rfl T.g_is_end_of T.F_is_end_of.kp T.b_is_end_of (pxT tk) (ja_cons (j_frz (j_call (ok_ramp T) (hr.mono (by decide)) rfl T.g_ramp T.F_ramp.kp T.b_ramp (pxT tk) (ja_cons (j_var 0) ja_nil))) (ja_cons (j_prop rfl rfl T.cl_Book T.pr_Book_roof (ok_Book_roof T) (hr.mono (by decide)) T.b_Book_roof (j_var 0)) (ja_cons (j_var 1) ja_nil)))))))
theorem sc_law_book : FnScope N_law_book ["_law_parts_here"] (defScope s_law_book) := ⟨rfl, rfl, rfl, by decide +kernel, rfl, by decide +kernel, by decide +kernel⟩
theorem ok_law_book (T : Tx K mg a) : FnOk P w K mg base (L2.CX P w) 6 a.f_law_book a.d_law_book ["_law_parts_here"] (liftSp K 1 (C_law_book a)) := by
  refine fn_ok T.F_law_book sc_law_book (by decide) (fun cdv A outer s H E hr => ?_) (pl_law_book T)
  have tk : Takes (cxOf (L2.CX P w) P w K mg base N_law_book "_law_book" (defScope s_law_book) a.f_law_book cdv A outer s H E) (fun cls d _ H => E cls d H) := takes_of rfl rfl rfl rfl
  exact (jss_one (js_ret (j_makeX (n := 2) T.mk_Book (ok_Book___init__ T) (hr.mono (by decide)) rfl T.g_Book T.kb0_Book___init__ (pxT tk) (ja_cons (j_ix (j_var 0) j_int) (ja_cons (j_ix (j_var 0) j_int) ja_nil)) (jk_cons (j_ix (j_var 0) j_int) jk_nil))))
theorem sc_end_behind : FnScope N_end_behind ["book", "number"] (defScope s_end_behind) := ⟨rfl, rfl, rfl, by decide +kernel, rfl, by decide +kernel, by decide +kernel⟩
theorem ok_end_behind (T : Tx K mg a) : FnOk P w K mg base (L2.CX P w) 7 a.f_end_behind a.d_end_behind ["book", "number"] (liftSp K 2 (C_end_behind a)) := by
  refine fn_ok T.F_end_behind sc_end_behind (by decide) (fun cdv A outer s H E hr => ?_) (pl_end_behind T)
  have tk : Takes (cxOf (L2.CX P w) P w K mg base N_end_behind "end_behind" (defScope s_end_behind) a.f_end_behind cdv A outer s H E) (fun cls d _ H => E cls d H) := takes_of rfl rfl rfl rfl
  exact (jss_cons (js_expr (j_frz (j_call (ok_check_integer T) (hr.mono (by decide)) rfl T.g_check_integer T.F_check_integer.kp T.b_check_integer (pxT tk) (ja_cons (j_var 1) (ja_cons j_int (ja_cons (j_globI rfl (T.c_MOST_GROWTH_numbers).choose_spec) ja_nil))))))
    (jss_one (js_ret (j_call (ok_end_at T) (hr.mono (by decide)) rfl T.g_end_at T.F_end_at.kp T.b_end_at (pxT tk) (ja_cons (j_var 0) (ja_cons (j_var 1) ja_nil))))))
theorem sc_law_refused : FnScope N_law_refused ["_law_door", "_law_book_here", "_law_thing"] (defScope s_law_refused) := ⟨rfl, rfl, rfl, by decide +kernel, rfl, by decide +kernel, by decide +kernel⟩
theorem ok_law_refused (T : Tx K mg a) : FnOkG P w K mg base 9 a.f_law_refused a.d_law_refused ["_law_door", "_law_book_here", "_law_thing"] (liftSp K 3 (C_law_refused a)) := by
  refine fn_okG T.F_law_refused sc_law_refused (by decide) (fun cdv A outer s H E hr hq => ?_) (pl_law_refused T)
  have tk : Takes (cxOf (L2.CX P w) P w K mg base N_law_refused "_law_refused" (defScope s_law_refused) a.f_law_refused cdv A outer s H E) (fun cls d _ H => E cls d H) := takes_of rfl rfl rfl rfl
  exact (jss_cons (js_try rfl rfl sc_law_refused.nd rfl rfl (names_own rfl T.g_GrowError) tk (fun _ _ _ tk hp => (jss_one (js_if (jt_cmp (op_eqD hr.units) p_eq (j_var 0) j_int (nomark _)) (jss_one (js_expr (j_frz (j_call (ok_end_behind T) (hr.mono (by decide)) rfl T.g_end_behind T.F_end_behind.kp T.b_end_behind (pxT tk) (ja_cons (j_var 1) (ja_cons (j_var 2) ja_nil)))))) (jss_one (js_if (jt_cmp (op_eqD hr.units) p_eq (j_var 0) j_int (nomark _)) (jss_one (js_expr (j_frz (j_call (ok_is_end T) (hr.mono (by decide)) rfl T.g_is_end T.F_is_end.kp T.b_is_end (pxT tk) (ja_cons (j_var 1) (ja_cons (j_var 2) ja_nil)))))) (jss_one (js_forN (cs := [a.c_InvalidNumber]) hp rfl (okN_ends T) (hr.mono (by decide)) rfl T.g_ends T.F_ends.kp T.b_ends tk (List.forall_mem_cons.mpr ⟨T.s_InvalidNumber, fun b hb => absurd hb List.not_mem_nil⟩) (ja_cons (j_var 1) (ja_cons (j_var 2) ja_nil))))))))) (fun ea oe ecls ed pn hz hf => (jss_one (js_ret (j_and (j_cb (call_is2 hz hf) c_isE rfl T.z_isinstance (by decide +kernel) (ja_cons (j_var 4) (ja_cons (j_globR rfl T.g_InvalidNumber) ja_nil))) (j_and (j_not (j_cb (call_is2 hz hf) c_isE rfl T.z_isinstance (by decide +kernel) (ja_cons (j_var 4) (ja_cons (j_globR rfl T.g_InvalidBook) ja_nil)))) (j_one (j_cmp (op_eqD hr.units) p_eq (j_cb (call_reprX hq hr.units) c_reprX rfl T.z_repr (by decide +kernel) (ja_cons (j_xf hz hf (j_var 4)) ja_nil)) (j_cb (call_reprX hq hr.units) c_reprX rfl T.z_repr (by decide +kernel) (ja_cons (j_var 2) ja_nil)) (nomark _)))))))))
    (jss_one (js_ret j_bl)))
theorem sc_law : FnScope N_law ["_law_script"] (defScope s_law) := ⟨rfl, rfl, rfl, by decide +kernel, rfl, by decide +kernel, by decide +kernel⟩
theorem ok_law (T : Tx K mg a) : FnOkG P w K mg base 10 a.f_law a.d_law ["_law_script"] (liftSp K 1 C_law) := by
  refine fn_okG T.F_law sc_law (by decide) (fun cdv A outer s H E hr hq => ?_) (pl_law T)
  have tk : Takes (cxOf (L2.CX P w) P w K mg base N_law "law" (defScope s_law) a.f_law cdv A outer s H E) (fun cls d _ H => E cls d H) := takes_of rfl rfl rfl rfl
  exact (jss_cons (js_for (passes_of rfl) rfl (ji_range1 rfl T.z_range (ja_cons (j_cb (call_maxA rfl) c_max rfl T.z_max (by decide +kernel) (ja_cons j_int (ja_cons (j_cb (call_minA rfl) c_min rfl T.z_min (by decide +kernel) (ja_cons (j_cb call_len c_len rfl T.z_len (by decide +kernel) (ja_cons (j_var 0) ja_nil)) (ja_cons j_int ja_nil))) ja_nil))) ja_nil)) (jg_name (i := 1) sc_law.nd rfl (by first | exact Or.inl rfl | exact Or.inr rfl)) (jss_cons (js_set (i := 2) sc_law.nd rfl (by first | exact Or.inl rfl | exact Or.inr rfl) (j_frz (j_call (ok_law_hand T) (hr.mono (by decide)) rfl T.g_law_hand T.F_law_hand.kp T.b_law_hand (pxT tk) (ja_cons (j_var 0) (ja_cons (j_var 1) ja_nil)))))
    (jss_cons (js_set (i := 3) sc_law.nd rfl (by first | exact Or.inl rfl | exact Or.inr rfl) (j_if (jt_cmp (op_eqD hr.units) p_eq (j_frz (j_call (ok_law_draw T) (hr.mono (by decide)) rfl T.g_law_draw T.F_law_draw.kp T.b_law_draw (pxT tk) (ja_cons (j_var 2) (ja_cons j_int ja_nil)))) j_int (nomark _)) (j_frz (j_call (ok_law_parts T) (hr.mono (by decide)) rfl T.g_law_parts T.F_law_parts.kp T.b_law_parts (pxT tk) (ja_cons (j_var 2) ja_nil))) (j_frz (j_call (ok_law_great T) (hr.mono (by decide)) rfl T.g_law_great T.F_law_great.kp T.b_law_great (pxT tk) (ja_cons (j_var 2) ja_nil)))))
    (jss_cons (js_set (i := 4) sc_law.nd rfl (by first | exact Or.inl rfl | exact Or.inr rfl) (j_frz (j_call (ok_law_book T) (hr.mono (by decide)) rfl T.g_law_book T.F_law_book.kp T.b_law_book (pxT tk) (ja_cons (j_var 3) ja_nil))))
    (jss_cons (js_set (i := 5) sc_law.nd rfl (by first | exact Or.inl rfl | exact Or.inr rfl) (j_frz (j_call (ok_law_ends T) (hr.mono (by decide)) rfl T.g_law_ends T.F_law_ends.kp T.b_law_ends (pxT tk) (ja_cons (j_var 3) (ja_cons (j_frz (j_call (ok_law_draw T) (hr.mono (by decide)) rfl T.g_law_draw T.F_law_draw.kp T.b_law_draw (pxT tk) (ja_cons (j_var 2) (ja_cons j_int ja_nil)))) ja_nil)))))
    (jss_cons (js_set (i := 6) sc_law.nd rfl (by first | exact Or.inl rfl | exact Or.inr rfl) (j_op o_add (p_add true) (j_ix (j_var 5) (j_pure (t := .int (-1)) (j_neg j_int) (pu_neg pu_c))) (j_frz (j_call (ok_law_draw T) (hr.mono (by decide)) rfl T.g_law_draw T.F_law_draw.kp T.b_law_draw (pxT tk) (ja_cons (j_var 2) (ja_cons (j_cty call_int1 c_int rfl T.z_int (by decide +kernel) (ja_cons (j_frz (j_call (ok_law_step T) (hr.mono (by decide)) rfl T.g_law_step T.F_law_step.kp T.b_law_step (pxT tk) (ja_cons (j_var 3) (ja_cons (j_ix (j_var 5) (j_pure (t := .int (-1)) (j_neg j_int) (pu_neg pu_c))) ja_nil)))) ja_nil)) ja_nil))))))
    (jss_cons (js_if (jt_cmp (op_neD hr.units) p_ne (j_lcG true (cs := [a.c_InvalidNumber]) rfl rfl rfl (scG_by (by decide +kernel)) (ok_ends T) (hr.mono (by decide)) rfl T.g_ends T.F_ends.kp T.b_ends tk (List.forall_mem_cons.mpr ⟨T.s_InvalidNumber, fun b hb => absurd hb List.not_mem_nil⟩) (ja_cons (j_var 4) (ja_cons (j_var 6) ja_nil))) (j_var 5) (nomark _)) (jss_one (js_ret j_bl)) jss_nil)
    (jss_cons (js_for (passes_of rfl) rfl (ji_range1 rfl T.z_range (ja_cons (j_cb call_len c_len rfl T.z_len (by decide +kernel) (ja_cons (j_var 5) ja_nil)) ja_nil)) (jg_name (i := 8) sc_law.nd rfl (by first | exact Or.inl rfl | exact Or.inr rfl)) (jss_cons (js_if (jt_w (jw_or (jt_cmp (op_neD hr.units) p_ne (j_frz (j_call (ok_end_behind T) (hr.mono (by decide)) rfl T.g_end_behind T.F_end_behind.kp T.b_end_behind (pxT tk) (ja_cons (j_var 4) (ja_cons (j_var 8) ja_nil)))) (j_ix (j_var 5) (j_var 8)) (nomark _)) (jw_or1 (jt_cmp op_isnotB p_isB (j_frz (j_call (ok_is_end T) (hr.mono (by decide)) rfl T.g_is_end T.F_is_end.kp T.b_is_end (pxT tk) (ja_cons (j_var 4) (ja_cons (j_ix (j_var 5) (j_var 8)) ja_nil)))) j_bl (nomark _))))) (jss_one (js_ret j_bl)) jss_nil)
    (jss_cons (js_set (i := 9) sc_law.nd rfl (by first | exact Or.inl rfl | exact Or.inr rfl) (j_op o_add (p_add true) (j_op o_add (p_add true) (j_ix (j_var 5) (j_var 8)) j_int) (j_frz (j_call (ok_law_draw T) (hr.mono (by decide)) rfl T.g_law_draw T.F_law_draw.kp T.b_law_draw (pxT tk) (ja_cons (j_var 2) (ja_cons (j_cty call_int1 c_int rfl T.z_int (by decide +kernel) (ja_cons (j_frz (j_call (ok_law_step T) (hr.mono (by decide)) rfl T.g_law_step T.F_law_step.kp T.b_law_step (pxT tk) (ja_cons (j_var 3) (ja_cons (j_ix (j_var 5) (j_var 8)) ja_nil)))) ja_nil)) ja_nil))))))
    (jss_one (js_if (jt_cmp (op_neD hr.units) p_ne (j_frz (j_call (ok_is_end T) (hr.mono (by decide)) rfl T.g_is_end T.F_is_end.kp T.b_is_end (pxT tk) (ja_cons (j_var 4) (ja_cons (j_var 9) ja_nil)))) (j_cmp (op_eqD hr.units) p_eq (j_var 9) (j_op o_add (p_add true) (j_ix (j_var 5) (j_var 8)) (j_frz (j_call (ok_law_step T) (hr.mono (by decide)) rfl T.g_law_step T.F_law_step.kp T.b_law_step (pxT tk) (ja_cons (j_var 3) (ja_cons (j_ix (j_var 5) (j_var 8)) ja_nil))))) (nomark _)) (nomark _)) (jss_one (js_ret j_bl)) jss_nil)))))
    (jss_cons (js_for (passes_of rfl) rfl (ji_seq (j_pure (t := .lst [.non, .bl true, .int (0 - 1), .str "1", .tup [.int 1], .int ((10 ^ 40) + 1)]) (j_lst true (ja_cons j_non (ja_cons j_bl (ja_cons (j_pure (t := .int (0 - 1)) (j_op op_sub p_sub j_int j_int) (pu_sub pu_c pu_c)) (ja_cons j_str (ja_cons (j_pure (t := .tup [.int 1]) (j_tup (ja_cons j_int ja_nil)) (pu_tup (pa_c pu_c pa_n) (by decide))) (ja_cons (j_pure (t := .int ((10 ^ 40) + 1)) (j_op o_add (p_add true) (j_pure (t := .int (10 ^ 40)) (j_op op_pow p_pow j_int j_int) (pu_pow pu_c pu_c (by decide))) j_int) (pu_add pu_c pu_c)) ja_nil))))))) (pu_lst (pa_c pu_c (pa_c pu_c (pa_c pu_c (pa_c pu_c (pa_c pu_c (pa_c pu_c pa_n)))))) (by decide)))) (jg_name (i := 10) sc_law.nd rfl (by first | exact Or.inl rfl | exact Or.inr rfl)) (jss_one (js_for (passes_of rfl) rfl (ji_range1 rfl T.z_range (ja_cons j_int ja_nil)) (jg_name (i := 11) sc_law.nd rfl (by first | exact Or.inl rfl | exact Or.inr rfl)) (jss_one (js_if (jt_not (jt_tru (j_frz (j_callG (ok_law_refused T) (hr.mono (by decide)) hq rfl T.g_law_refused T.F_law_refused.kp T.b_law_refused (pxT tk) (ja_cons (j_var 11) (ja_cons (j_var 4) (ja_cons (j_var 10) ja_nil))))))) (jss_one (js_ret j_bl)) jss_nil)))))
    (jss_one (js_if (jt_w (jw_or (jt_not (jt_tru (j_frz (j_callG (ok_law_refused T) (hr.mono (by decide)) hq rfl T.g_law_refused T.F_law_refused.kp T.b_law_refused (pxT tk) (ja_cons j_int (ja_cons (j_var 4) (ja_cons (j_pure (t := .int ((10 ^ 30) + 1)) (j_op o_add (p_add true) (j_pure (t := .int (10 ^ 30)) (j_op op_pow p_pow j_int j_int) (pu_pow pu_c pu_c (by decide))) j_int) (pu_add pu_c pu_c)) ja_nil))))))) (jw_or1 (jt_cmp (o_ownNe rfl rfl T.me_Book___eq__ T.ne_Book T.so_Book (ok_Book___eq__ T) (hr.mono (by decide)) T.b_Book___eq__) p_ownNe (j_var 4) (j_frz (j_call (ok_law_book T) (hr.mono (by decide)) rfl T.g_law_book T.F_law_book.kp T.b_law_book (pxT tk) (ja_cons (j_var 3) ja_nil))) (nomark _))))) (jss_one (js_ret j_bl)) jss_nil)))))))))))
    (jss_one (js_ret j_bl)))
end
theorem law_tabs {K : PySem.W.Frag} {mg : Str → Option Value} {a : Ad} (T : Tx K mg a) {ns : List Int} (hl : ns.length ≤ 63) {h : Hq}  : C_law [.scr ns] h (fun u _ => u = .bl true) (fun _ _ => False) := ⟨ns, rfl, hl, fun _ => rfl⟩
theorem all_mk {l : PySem.W.OpenLaw} {w : World} {K : PySem.W.Frag} {h : Heap} {mg : Str → Option Value} {fa : Addr} (X : K.In h) (G : h.Ns mainGlobals mg) (hfa : mg "law" = some (.ref fa))
    {f1 : Addr} {od1 an1 : Option Addr} {sl1 : Array (Option Value)} {oc1 kV1 dc1 pm1 cd1 ct1 : Value}
    {f2 : Addr} {od2 an2 : Option Addr} {sl2 : Array (Option Value)} {oc2 kV2 dc2 pm2 cd2 ct2 : Value}
    {f3 : Addr} {od3 an3 : Option Addr} {sl3 : Array (Option Value)} {oc3 kV3 dc3 pm3 cd3 ct3 : Value}
    {f4 : Addr} {od4 an4 : Option Addr} {sl4 : Array (Option Value)} {oc4 kV4 dc4 pm4 cd4 ct4 : Value}
    {f5 : Addr} {od5 an5 : Option Addr} {sl5 : Array (Option Value)} {oc5 kV5 dc5 pm5 cd5 ct5 : Value}
    {f6 : Addr} {od6 an6 : Option Addr} {sl6 : Array (Option Value)} {oc6 kV6 dc6 pm6 cd6 ct6 : Value}
    {f7 : Addr} {od7 an7 : Option Addr} {sl7 : Array (Option Value)} {oc7 kV7 dc7 pm7 cd7 ct7 : Value}
    {f8 : Addr} {od8 an8 : Option Addr} {sl8 : Array (Option Value)} {oc8 kV8 dc8 pm8 cd8 ct8 : Value}
    {f9 : Addr} {od9 an9 : Option Addr} {sl9 : Array (Option Value)} {oc9 kV9 dc9 pm9 cd9 ct9 : Value}
    {f10 : Addr} {od10 an10 : Option Addr} {sl10 : Array (Option Value)} {oc10 kV10 dc10 pm10 cd10 ct10 : Value}
    {f11 : Addr} {od11 an11 : Option Addr} {sl11 : Array (Option Value)} {oc11 kV11 dc11 pm11 cd11 ct11 : Value}
    {f12 : Addr} {od12 an12 : Option Addr} {sl12 : Array (Option Value)} {oc12 dc12 pm12 cd12 ct12 : Value}
    {kd12 : Addr}
    {kt12_share : Addr}
    {f13 : Addr} {od13 an13 : Option Addr} {sl13 : Array (Option Value)} {oc13 kV13 dc13 pm13 cd13 ct13 : Value}
    {pp13 : Addr} {pr13 : List Value}
    {f14 : Addr} {od14 an14 : Option Addr} {sl14 : Array (Option Value)} {oc14 kV14 dc14 pm14 cd14 ct14 : Value}
    {f15 : Addr} {od15 an15 : Option Addr} {sl15 : Array (Option Value)} {oc15 kV15 dc15 pm15 cd15 ct15 : Value}
    {f16 : Addr} {od16 an16 : Option Addr} {sl16 : Array (Option Value)} {oc16 kV16 dc16 pm16 cd16 ct16 : Value}
    {f17 : Addr} {od17 an17 : Option Addr} {sl17 : Array (Option Value)} {oc17 kV17 dc17 pm17 cd17 ct17 : Value}
    {f18 : Addr} {od18 an18 : Option Addr} {sl18 : Array (Option Value)} {oc18 kV18 dc18 pm18 cd18 ct18 : Value}
    {f19 : Addr} {od19 an19 : Option Addr} {sl19 : Array (Option Value)} {oc19 kV19 dc19 pm19 cd19 ct19 : Value}
    {f20 : Addr} {od20 an20 : Option Addr} {sl20 : Array (Option Value)} {oc20 kV20 dc20 pm20 cd20 ct20 : Value}
    {f21 : Addr} {od21 an21 : Option Addr} {sl21 : Array (Option Value)} {oc21 kV21 dc21 pm21 cd21 ct21 : Value}
    {f22 : Addr} {od22 an22 : Option Addr} {sl22 : Array (Option Value)} {oc22 kV22 dc22 pm22 cd22 ct22 : Value}
    {f23 : Addr} {od23 an23 : Option Addr} {sl23 : Array (Option Value)} {oc23 kV23 dc23 pm23 cd23 ct23 : Value}
    {f24 : Addr} {od24 an24 : Option Addr} {sl24 : Array (Option Value)} {oc24 kV24 dc24 pm24 cd24 ct24 : Value}
    {f25 : Addr} {od25 an25 : Option Addr} {sl25 : Array (Option Value)} {oc25 kV25 dc25 pm25 cd25 ct25 : Value}
    {f26 : Addr} {od26 an26 : Option Addr} {sl26 : Array (Option Value)} {oc26 kV26 dc26 pm26 cd26 ct26 : Value}
    {t_MOST : Tok}
    {t_MOST_GROWTH_checks : Tok}
    {t_MOST_GROWTH_numbers : Tok}
    {t_MOST_NUMBER : Tok}
    {t_MOST_SHARE : Tok}
    {c_InvalidNumber : Addr}
    {c_GrowError : Addr}
    {c_Book : Addr}
    {c_InvalidBook : Addr}
    {i_InvalidNumber : Addr} {xnm_InvalidNumber xq_InvalidNumber : Str} {xN_InvalidNumber : Addr} {xbs_InvalidNumber : List Value} {xsn_InvalidNumber : List Str} {xsub_InvalidNumber : List Value} {xab_InvalidNumber : Bool} {xcol_InvalidNumber : Option Bool} {xdd_InvalidNumber : Option Addr} {m0_InvalidNumber m1_InvalidNumber m2_InvalidNumber m3_InvalidNumber m5_InvalidNumber : Option Value} {od_InvalidNumber an_InvalidNumber : Option Addr} {sl_InvalidNumber : Array (Option Value)} {oc_InvalidNumber kV_InvalidNumber dc_InvalidNumber pm_InvalidNumber cd_InvalidNumber ct_InvalidNumber : Value}
    {i_InvalidBook : Addr} {xnm_InvalidBook xq_InvalidBook : Str} {xN_InvalidBook : Addr} {xbs_InvalidBook : List Value} {xsn_InvalidBook : List Str} {xsub_InvalidBook : List Value} {xab_InvalidBook : Bool} {xcol_InvalidBook : Option Bool} {xdd_InvalidBook : Option Addr} {m0_InvalidBook m1_InvalidBook m2_InvalidBook m3_InvalidBook m5_InvalidBook : Option Value} {od_InvalidBook an_InvalidBook : Option Addr} {sl_InvalidBook : Array (Option Value)} {oc_InvalidBook kV_InvalidBook dc_InvalidBook pm_InvalidBook cd_InvalidBook ct_InvalidBook : Value}
    (a1 : PySem.W.nsIn K mainGlobals "is_integer" = some (some (.ref f1)))
    (l1 : K.lookup f1 = some ⟨oc1, od1, .func (PySem.W.fnOf "is_integer" "is_integer" (defArgs s_is_integer) (defBody s_is_integer) (defScope s_is_integer) .none kV1 dc1 pm1 an1 cd1 ct1), sl1⟩) (c1 : PySem.W.codeIn K cd1 "is_integer" = true) (k1 : PySem.W.keepIn K (.ref f1) = true)
    (a2 : PySem.W.nsIn K mainGlobals "check_integer" = some (some (.ref f2)))
    (l2 : K.lookup f2 = some ⟨oc2, od2, .func (PySem.W.fnOf "check_integer" "check_integer" (defArgs s_check_integer) (defBody s_check_integer) (defScope s_check_integer) .none kV2 dc2 pm2 an2 cd2 ct2), sl2⟩) (c2 : PySem.W.codeIn K cd2 "check_integer" = true) (k2 : PySem.W.keepIn K (.ref f2) = true)
    (a3 : PySem.W.nsIn K mainGlobals "ramp" = some (some (.ref f3)))
    (l3 : K.lookup f3 = some ⟨oc3, od3, .func (PySem.W.fnOf "ramp" "ramp" (defArgs s_ramp) (defBody s_ramp) (defScope s_ramp) .none kV3 dc3 pm3 an3 cd3 ct3), sl3⟩) (c3 : PySem.W.codeIn K cd3 "ramp" = true) (k3 : PySem.W.keepIn K (.ref f3) = true)
    (a4 : PySem.W.nsIn K mainGlobals "end_at" = some (some (.ref f4)))
    (l4 : K.lookup f4 = some ⟨oc4, od4, .func (PySem.W.fnOf "end_at" "end_at" (defArgs s_end_at) (defBody s_end_at) (defScope s_end_at) .none kV4 dc4 pm4 an4 cd4 ct4), sl4⟩) (c4 : PySem.W.codeIn K cd4 "end_at" = true) (k4 : PySem.W.keepIn K (.ref f4) = true)
    (a5 : PySem.W.nsIn K mainGlobals "end_behind" = some (some (.ref f5)))
    (l5 : K.lookup f5 = some ⟨oc5, od5, .func (PySem.W.fnOf "end_behind" "end_behind" (defArgs s_end_behind) (defBody s_end_behind) (defScope s_end_behind) .none kV5 dc5 pm5 an5 cd5 ct5), sl5⟩) (c5 : PySem.W.codeIn K cd5 "end_behind" = true) (k5 : PySem.W.keepIn K (.ref f5) = true)
    (a6 : PySem.W.nsIn K mainGlobals "ends" = some (some (.ref f6)))
    (l6 : K.lookup f6 = some ⟨oc6, od6, .func (PySem.W.fnOf "ends" "ends" (defArgs s_ends) (defBody s_ends) (defScope s_ends) .none kV6 dc6 pm6 an6 cd6 ct6), sl6⟩) (c6 : PySem.W.codeIn K cd6 "ends" = true) (k6 : PySem.W.keepIn K (.ref f6) = true)
    (a7 : PySem.W.nsIn K mainGlobals "is_end_of" = some (some (.ref f7)))
    (l7 : K.lookup f7 = some ⟨oc7, od7, .func (PySem.W.fnOf "is_end_of" "is_end_of" (defArgs s_is_end_of) (defBody s_is_end_of) (defScope s_is_end_of) .none kV7 dc7 pm7 an7 cd7 ct7), sl7⟩) (c7 : PySem.W.codeIn K cd7 "is_end_of" = true) (k7 : PySem.W.keepIn K (.ref f7) = true)
    (a8 : PySem.W.nsIn K mainGlobals "is_end" = some (some (.ref f8)))
    (l8 : K.lookup f8 = some ⟨oc8, od8, .func (PySem.W.fnOf "is_end" "is_end" (defArgs s_is_end) (defBody s_is_end) (defScope s_is_end) .none kV8 dc8 pm8 an8 cd8 ct8), sl8⟩) (c8 : PySem.W.codeIn K cd8 "is_end" = true) (k8 : PySem.W.keepIn K (.ref f8) = true)
    (a9 : PySem.W.nsIn K mainGlobals "is_share" = some (some (.ref f9)))
    (l9 : K.lookup f9 = some ⟨oc9, od9, .func (PySem.W.fnOf "is_share" "is_share" (defArgs s_is_share) (defBody s_is_share) (defScope s_is_share) .none kV9 dc9 pm9 an9 cd9 ct9), sl9⟩) (c9 : PySem.W.codeIn K cd9 "is_share" = true) (k9 : PySem.W.keepIn K (.ref f9) = true)
    (a10 : PySem.W.nsIn K mainGlobals "part_of" = some (some (.ref f10)))
    (l10 : K.lookup f10 = some ⟨oc10, od10, .func (PySem.W.fnOf "part_of" "part_of" (defArgs s_part_of) (defBody s_part_of) (defScope s_part_of) .none kV10 dc10 pm10 an10 cd10 ct10), sl10⟩) (c10 : PySem.W.codeIn K cd10 "part_of" = true) (k10 : PySem.W.keepIn K (.ref f10) = true)
    (a11 : PySem.W.nsIn K mainGlobals "check_parts" = some (some (.ref f11)))
    (l11 : K.lookup f11 = some ⟨oc11, od11, .func (PySem.W.fnOf "check_parts" "check_parts" (defArgs s_check_parts) (defBody s_check_parts) (defScope s_check_parts) .none kV11 dc11 pm11 an11 cd11 ct11), sl11⟩) (c11 : PySem.W.codeIn K cd11 "check_parts" = true) (k11 : PySem.W.keepIn K (.ref f11) = true)
    (a18 : PySem.W.nsIn K mainGlobals "_law_hand" = some (some (.ref f18)))
    (l18 : K.lookup f18 = some ⟨oc18, od18, .func (PySem.W.fnOf "_law_hand" "_law_hand" (defArgs s_law_hand) (defBody s_law_hand) (defScope s_law_hand) .none kV18 dc18 pm18 an18 cd18 ct18), sl18⟩) (c18 : PySem.W.codeIn K cd18 "_law_hand" = true) (k18 : PySem.W.keepIn K (.ref f18) = true)
    (a19 : PySem.W.nsIn K mainGlobals "_law_draw" = some (some (.ref f19)))
    (l19 : K.lookup f19 = some ⟨oc19, od19, .func (PySem.W.fnOf "_law_draw" "_law_draw" (defArgs s_law_draw) (defBody s_law_draw) (defScope s_law_draw) .none kV19 dc19 pm19 an19 cd19 ct19), sl19⟩) (c19 : PySem.W.codeIn K cd19 "_law_draw" = true) (k19 : PySem.W.keepIn K (.ref f19) = true)
    (a20 : PySem.W.nsIn K mainGlobals "_law_parts" = some (some (.ref f20)))
    (l20 : K.lookup f20 = some ⟨oc20, od20, .func (PySem.W.fnOf "_law_parts" "_law_parts" (defArgs s_law_parts) (defBody s_law_parts) (defScope s_law_parts) .none kV20 dc20 pm20 an20 cd20 ct20), sl20⟩) (c20 : PySem.W.codeIn K cd20 "_law_parts" = true) (k20 : PySem.W.keepIn K (.ref f20) = true)
    (a21 : PySem.W.nsIn K mainGlobals "_law_book" = some (some (.ref f21)))
    (l21 : K.lookup f21 = some ⟨oc21, od21, .func (PySem.W.fnOf "_law_book" "_law_book" (defArgs s_law_book) (defBody s_law_book) (defScope s_law_book) .none kV21 dc21 pm21 an21 cd21 ct21), sl21⟩) (c21 : PySem.W.codeIn K cd21 "_law_book" = true) (k21 : PySem.W.keepIn K (.ref f21) = true)
    (a22 : PySem.W.nsIn K mainGlobals "_law_step" = some (some (.ref f22)))
    (l22 : K.lookup f22 = some ⟨oc22, od22, .func (PySem.W.fnOf "_law_step" "_law_step" (defArgs s_law_step) (defBody s_law_step) (defScope s_law_step) .none kV22 dc22 pm22 an22 cd22 ct22), sl22⟩) (c22 : PySem.W.codeIn K cd22 "_law_step" = true) (k22 : PySem.W.keepIn K (.ref f22) = true)
    (a23 : PySem.W.nsIn K mainGlobals "_law_great" = some (some (.ref f23)))
    (l23 : K.lookup f23 = some ⟨oc23, od23, .func (PySem.W.fnOf "_law_great" "_law_great" (defArgs s_law_great) (defBody s_law_great) (defScope s_law_great) .none kV23 dc23 pm23 an23 cd23 ct23), sl23⟩) (c23 : PySem.W.codeIn K cd23 "_law_great" = true) (k23 : PySem.W.keepIn K (.ref f23) = true)
    (a24 : PySem.W.nsIn K mainGlobals "_law_ends" = some (some (.ref f24)))
    (l24 : K.lookup f24 = some ⟨oc24, od24, .func (PySem.W.fnOf "_law_ends" "_law_ends" (defArgs s_law_ends) (defBody s_law_ends) (defScope s_law_ends) .none kV24 dc24 pm24 an24 cd24 ct24), sl24⟩) (c24 : PySem.W.codeIn K cd24 "_law_ends" = true) (k24 : PySem.W.keepIn K (.ref f24) = true)
    (a25 : PySem.W.nsIn K mainGlobals "_law_refused" = some (some (.ref f25)))
    (l25 : K.lookup f25 = some ⟨oc25, od25, .func (PySem.W.fnOf "_law_refused" "_law_refused" (defArgs s_law_refused) (defBody s_law_refused) (defScope s_law_refused) .none kV25 dc25 pm25 an25 cd25 ct25), sl25⟩) (c25 : PySem.W.codeIn K cd25 "_law_refused" = true) (k25 : PySem.W.keepIn K (.ref f25) = true)
    (a26 : PySem.W.nsIn K mainGlobals "law" = some (some (.ref f26)))
    (l26 : K.lookup f26 = some ⟨oc26, od26, .func (PySem.W.fnOf "law" "law" (defArgs s_law) (defBody s_law) (defScope s_law) .none kV26 dc26 pm26 an26 cd26 ct26), sl26⟩) (c26 : PySem.W.codeIn K cd26 "law" = true) (k26 : PySem.W.keepIn K (.ref f26) = true)
    (z_bool : PySem.W.nsIn K mainGlobals "bool" = some none)
    (z_int : PySem.W.nsIn K mainGlobals "int" = some none)
    (z_isinstance : PySem.W.nsIn K mainGlobals "isinstance" = some none)
    (z_len : PySem.W.nsIn K mainGlobals "len" = some none)
    (z_max : PySem.W.nsIn K mainGlobals "max" = some none)
    (z_min : PySem.W.nsIn K mainGlobals "min" = some none)
    (z_range : PySem.W.nsIn K mainGlobals "range" = some none)
    (z_repr : PySem.W.nsIn K mainGlobals "repr" = some none)
    (z_tuple : PySem.W.nsIn K mainGlobals "tuple" = some none)
    (c_MOST : PySem.W.nsIn K mainGlobals "MOST" = some (some (.int 10000000000000000000000000000000000000000 t_MOST)))
    (c_MOST_GROWTH_checks : PySem.W.nsIn K mainGlobals "MOST_GROWTH_checks" = some (some (.int 1000000000000000000000000000000 t_MOST_GROWTH_checks)))
    (c_MOST_GROWTH_numbers : PySem.W.nsIn K mainGlobals "MOST_GROWTH_numbers" = some (some (.int 1000000000000000000000000000000 t_MOST_GROWTH_numbers)))
    (c_MOST_NUMBER : PySem.W.nsIn K mainGlobals "MOST_NUMBER" = some (some (.int 10000000000000000000000000000000000000000 t_MOST_NUMBER)))
    (c_MOST_SHARE : PySem.W.nsIn K mainGlobals "MOST_SHARE" = some (some (.int 100 t_MOST_SHARE)))
    (ga_InvalidNumber : PySem.W.nsIn K mainGlobals "InvalidNumber" = some (some (.ref c_InvalidNumber)))
    (ga_GrowError : PySem.W.nsIn K mainGlobals "GrowError" = some (some (.ref c_GrowError)))
    (ga_Book : PySem.W.nsIn K mainGlobals "Book" = some (some (.ref c_Book)))
    (ga_InvalidBook : PySem.W.nsIn K mainGlobals "InvalidBook" = some (some (.ref c_InvalidBook)))
    (mi12 : PySem.W.findIn K (.ref c_Book) "__init__" = some (some (.ref f12))) (mf12 : PySem.W.isFn K (.ref f12) = true)
    (l12 : K.lookup f12 = some ⟨oc12, od12, .func (PySem.W.fnOf "__init__" "Book.__init__" (defArgs s_Book___init__) (defBody s_Book___init__) (defScope s_Book___init__) .none (.ref kd12) dc12 pm12 an12 cd12 ct12), sl12⟩) (c12 : PySem.W.codeIn K cd12 "Book.__init__" = true) (k12 : PySem.W.keepIn K (.ref f12) = true)
    (kw12_share : PySem.W.nsIn K kd12 "share" = some (some (.ref kt12_share)))
    (pa13 : PySem.W.findIn K (.ref c_Book) "roof" = some (some (.ref pp13))) (pg13 : PySem.W.specialIn K (.ref pp13) "__get__" = some (some (.builtin "property.__get__"))) (pt13 : PySem.W.takesIn K (.ref pp13) = some true) (pc13 : PySem.W.recIn K pp13 "property" = some (.ref f13 :: pr13))
    (l13 : K.lookup f13 = some ⟨oc13, od13, .func (PySem.W.fnOf "roof" "Book.roof" (defArgs s_Book_roof) (defBody s_Book_roof) (defScope s_Book_roof) .none kV13 dc13 pm13 an13 cd13 ct13), sl13⟩) (c13 : PySem.W.codeIn K cd13 "Book.roof" = true) (k13 : PySem.W.keepIn K (.ref f13) = true)
    (mi14 : PySem.W.findIn K (.ref c_Book) "step" = some (some (.ref f14))) (mf14 : PySem.W.isFn K (.ref f14) = true)
    (l14 : K.lookup f14 = some ⟨oc14, od14, .func (PySem.W.fnOf "step" "Book.step" (defArgs s_Book_step) (defBody s_Book_step) (defScope s_Book_step) .none kV14 dc14 pm14 an14 cd14 ct14), sl14⟩) (c14 : PySem.W.codeIn K cd14 "Book.step" = true) (k14 : PySem.W.keepIn K (.ref f14) = true)
    (mi15 : PySem.W.findIn K (.ref c_Book) "given" = some (some (.ref f15))) (mf15 : PySem.W.isFn K (.ref f15) = true)
    (l15 : K.lookup f15 = some ⟨oc15, od15, .func (PySem.W.fnOf "given" "Book.given" (defArgs s_Book_given) (defBody s_Book_given) (defScope s_Book_given) .none kV15 dc15 pm15 an15 cd15 ct15), sl15⟩) (c15 : PySem.W.codeIn K cd15 "Book.given" = true) (k15 : PySem.W.keepIn K (.ref f15) = true)
    (mi16 : PySem.W.findIn K (.ref c_Book) "parts" = some (some (.ref f16))) (mf16 : PySem.W.isFn K (.ref f16) = true)
    (l16 : K.lookup f16 = some ⟨oc16, od16, .func (PySem.W.fnOf "parts" "Book.parts" (defArgs s_Book_parts) (defBody s_Book_parts) (defScope s_Book_parts) .none kV16 dc16 pm16 an16 cd16 ct16), sl16⟩) (c16 : PySem.W.codeIn K cd16 "Book.parts" = true) (k16 : PySem.W.keepIn K (.ref f16) = true)
    (mi17 : PySem.W.findIn K (.ref c_Book) "__eq__" = some (some (.ref f17))) (mf17 : PySem.W.isFn K (.ref f17) = true)
    (l17 : K.lookup f17 = some ⟨oc17, od17, .func (PySem.W.fnOf "__eq__" "Book.__eq__" (defArgs s_Book___eq__) (defBody s_Book___eq__) (defScope s_Book___eq__) .none kV17 dc17 pm17 an17 cd17 ct17), sl17⟩) (c17 : PySem.W.codeIn K cd17 "Book.__eq__" = true) (k17 : PySem.W.keepIn K (.ref f17) = true)
    (wpg_Book : PySem.W.plainGet K c_Book Str.empty = true)
    (whd_Book : PySem.W.hasDictIn K c_Book = true)
    (wpo_Book : PySem.W.plainOver K c_Book = true)
    (wsa_Book : PySem.W.findIn K (.ref c_Book) "__setattr__" = some (some (.builtin "object.__setattr__")))
    (wmk_Book : PySem.W.makesIn K c_Book = true)
    (wkp_Book : PySem.W.keepIn K (.ref c_Book) = true)
    (wne_Book : PySem.W.findIn K (.ref c_Book) "__ne__" = some (some (.builtin "object.__ne__")))
    (wso_Book : PySem.W.subIn K (.ref c_Book) (.type "object") = some true)
    (wcl_Book : PySem.W.findIn K (.ref c_Book) "__class__" = some (some (.builtin "object.__class__")))
    (wsp_Book : PySem.W.specialIn K (.builtin "object.__class__") "__get__" = some (some (.builtin "getset_descriptor.__get__")))
    (wtk_Book : PySem.W.takesIn K (.builtin "object.__class__") = some true)
    (wmr_Book : PySem.W.mroIn K c_Book (.type "object") = some true)
    (wk_non_Book : PySem.W.kitOne K (.type "NoneType") (.ref c_Book) = some false)
    (wk_bl_Book : PySem.W.kitOne K (.type "bool") (.ref c_Book) = some false)
    (wk_int_Book : PySem.W.kitOne K (.type "int") (.ref c_Book) = some false)
    (wk_str_Book : PySem.W.kitOne K (.type "str") (.ref c_Book) = some false)
    (wk_tup_Book : PySem.W.kitOne K (.type "tuple") (.ref c_Book) = some false)
    (wk_lst_Book : PySem.W.kitOne K (.type "list") (.ref c_Book) = some false)
    (wi_Book_Book : PySem.W.kitOne K (.ref c_Book) (.ref c_Book) = some true)
    (wn_Book_own_share : PySem.W.findIn K (.ref c_Book) "own_share" = some none)
    (wn_Book_own_roof : PySem.W.findIn K (.ref c_Book) "own_roof" = some none)
    (wn_Book_own_first : PySem.W.findIn K (.ref c_Book) "own_first" = some none)
    (xL_InvalidNumber : K.lookup c_InvalidNumber = some (excClassObj xnm_InvalidNumber xq_InvalidNumber c_InvalidNumber xN_InvalidNumber xbs_InvalidNumber [.ref c_GrowError, .type "ValueError", .type "Exception", .type "BaseException", .type "object"] true xsn_InvalidNumber xsub_InvalidNumber xab_InvalidNumber xcol_InvalidNumber xdd_InvalidNumber m0_InvalidNumber m1_InvalidNumber m2_InvalidNumber m3_InvalidNumber m5_InvalidNumber "ValueError.__new__"))
    (xsa_InvalidNumber : PySem.W.findIn K (.ref c_InvalidNumber) "__setattr__" = some (some (.builtin "object.__setattr__")))
    (xga_InvalidNumber : PySem.W.findIn K (.ref c_InvalidNumber) "__getattribute__" = some (some (.builtin "BaseException.__getattribute__")))
    (xgg_InvalidNumber : PySem.W.findIn K (.ref c_InvalidNumber) "__getattr__" = some none)
    (xnf_InvalidNumber : PySem.W.findIn K (.ref c_InvalidNumber) "number" = some none)
    (xi_InvalidNumber : PySem.W.findIn K (.ref c_InvalidNumber) "__init__" = some (some (.ref i_InvalidNumber)))
    (xt_InvalidNumber : PySem.W.typeIn K (.ref i_InvalidNumber) = some (.type "function"))
    (xl_InvalidNumber : K.lookup i_InvalidNumber = some ⟨oc_InvalidNumber, od_InvalidNumber, .func (PySem.W.fnOf "__init__" "InvalidNumber.__init__" (defArgs si_InvalidNumber) (defBody si_InvalidNumber) (defScope si_InvalidNumber) .none kV_InvalidNumber dc_InvalidNumber pm_InvalidNumber an_InvalidNumber cd_InvalidNumber ct_InvalidNumber), sl_InvalidNumber⟩)
    (xc_InvalidNumber : PySem.W.codeIn K cd_InvalidNumber "InvalidNumber.__init__" = true)
    (xki_InvalidNumber : PySem.W.keepIn K (.ref i_InvalidNumber) = true)
    (xk_InvalidNumber : PySem.W.keepIn K (.ref c_InvalidNumber) = true)
    (xe_InvalidNumber : PySem.W.subIn K (.ref c_InvalidNumber) (.type "BaseException") = some true)
    (xty_InvalidNumber : PySem.W.typeIn K (.ref c_InvalidNumber) = some (.type "type"))
    (xh_InvalidNumber : PySem.W.hasDictIn K c_InvalidNumber = true)
    (xcl_InvalidNumber : PySem.W.findIn K (.ref c_InvalidNumber) "__class__" = some (some (.builtin "object.__class__")))
    (xsp_InvalidNumber : PySem.W.specialIn K (.builtin "object.__class__") "__get__" = some (some (.builtin "getset_descriptor.__get__")))
    (xtk_InvalidNumber : PySem.W.takesIn K (.builtin "object.__class__") = some true)
    (xm_InvalidNumber : PySem.W.mroIn K c_InvalidNumber (.type "object") = some true)
    (xL_InvalidBook : K.lookup c_InvalidBook = some (excClassObj xnm_InvalidBook xq_InvalidBook c_InvalidBook xN_InvalidBook xbs_InvalidBook [.ref c_GrowError, .type "ValueError", .type "Exception", .type "BaseException", .type "object"] true xsn_InvalidBook xsub_InvalidBook xab_InvalidBook xcol_InvalidBook xdd_InvalidBook m0_InvalidBook m1_InvalidBook m2_InvalidBook m3_InvalidBook m5_InvalidBook "ValueError.__new__"))
    (xsa_InvalidBook : PySem.W.findIn K (.ref c_InvalidBook) "__setattr__" = some (some (.builtin "object.__setattr__")))
    (xga_InvalidBook : PySem.W.findIn K (.ref c_InvalidBook) "__getattribute__" = some (some (.builtin "BaseException.__getattribute__")))
    (xgg_InvalidBook : PySem.W.findIn K (.ref c_InvalidBook) "__getattr__" = some none)
    (xnf_InvalidBook : PySem.W.findIn K (.ref c_InvalidBook) "part" = some none)
    (xi_InvalidBook : PySem.W.findIn K (.ref c_InvalidBook) "__init__" = some (some (.ref i_InvalidBook)))
    (xt_InvalidBook : PySem.W.typeIn K (.ref i_InvalidBook) = some (.type "function"))
    (xl_InvalidBook : K.lookup i_InvalidBook = some ⟨oc_InvalidBook, od_InvalidBook, .func (PySem.W.fnOf "__init__" "InvalidBook.__init__" (defArgs si_InvalidBook) (defBody si_InvalidBook) (defScope si_InvalidBook) .none kV_InvalidBook dc_InvalidBook pm_InvalidBook an_InvalidBook cd_InvalidBook ct_InvalidBook), sl_InvalidBook⟩)
    (xc_InvalidBook : PySem.W.codeIn K cd_InvalidBook "InvalidBook.__init__" = true)
    (xki_InvalidBook : PySem.W.keepIn K (.ref i_InvalidBook) = true)
    (xk_InvalidBook : PySem.W.keepIn K (.ref c_InvalidBook) = true)
    (xe_InvalidBook : PySem.W.subIn K (.ref c_InvalidBook) (.type "BaseException") = some true)
    (xty_InvalidBook : PySem.W.typeIn K (.ref c_InvalidBook) = some (.type "type"))
    (xh_InvalidBook : PySem.W.hasDictIn K c_InvalidBook = true)
    (xcl_InvalidBook : PySem.W.findIn K (.ref c_InvalidBook) "__class__" = some (some (.builtin "object.__class__")))
    (xsp_InvalidBook : PySem.W.specialIn K (.builtin "object.__class__") "__get__" = some (some (.builtin "getset_descriptor.__get__")))
    (xtk_InvalidBook : PySem.W.takesIn K (.builtin "object.__class__") = some true)
    (xm_InvalidBook : PySem.W.mroIn K c_InvalidBook (.type "object") = some true)
    (xst_InvalidNumber : PySem.W.subIn K (.ref c_InvalidNumber) (.type "StopIteration") = some false)
    (ye_GrowError : PySem.W.subIn K (.ref c_GrowError) (.type "BaseException") = some true) (yh_GrowError : PySem.W.hasDictIn K c_GrowError = true) (yt_GrowError : PySem.W.typeIn K (.ref c_GrowError) = some (.type "type"))
    (ys_InvalidNumber_GrowError : PySem.W.subIn K (.ref c_InvalidNumber) (.ref c_GrowError) = some true)
    (ys_InvalidBook_GrowError : PySem.W.subIn K (.ref c_InvalidBook) (.ref c_GrowError) = some true)
    (yk_InvalidNumber_InvalidNumber : PySem.W.kitOne K (.ref c_InvalidNumber) (.ref c_InvalidNumber) = some true)
    (yk_InvalidBook_InvalidNumber : PySem.W.kitOne K (.ref c_InvalidBook) (.ref c_InvalidNumber) = some false)
    (yk_InvalidNumber_InvalidBook : PySem.W.kitOne K (.ref c_InvalidNumber) (.ref c_InvalidBook) = some false)
    (yk_InvalidBook_InvalidBook : PySem.W.kitOne K (.ref c_InvalidBook) (.ref c_InvalidBook) = some true) :
    ∃ (fd : FuncData) (cs : List (Str × Addr × Addr × Str)) (sp : Sp), (∀ p ∈ cs, ((PyProof.Rows.recsOf PySem.Challenge.pw_grownfiles_k50_hold_ends).find? fun e => e.name == p.1).isSome = true ∧ PySem.W.tabIn K p.1 = some (p.2.1, p.2.2.1) ∧ K.lookup p.2.2.1 = none) ∧ (∀ (s : Shared) (v : Value), BindsTo s fd ⟨[v], []⟩ [("_law_script", v)]) ∧
      (∀ (H : Hp) (a : Addr) (ns : List Int), ns.length ≤ 63 → (∀ p ∈ cs, H p.2.2.1 = some (.tbl #[])) → SqL K H a (ns.map V.int) → sp [.ref a] H (fun v _ => v = .bl true) fun _ _ _ => False) ∧ ∀ base : Heap, K.In base → base.Ns mainGlobals mg → (∀ p ∈ cs, LamX.TabB base mg p.2.1 p.2.2.1) → FnOkG l.prog w K mg base 10 fa fd ["_law_script"] sp := by
  have e := hfa.symm.trans (PySem.W.mg_of X G a26)
  cases e
  have F1 := fun_mk (st := s_is_integer) l1 c1 k1
  have b1 := F1.binds (ps := ["thing", "least", "most"]) fun _ _ _ _ _ _ us hl => match us, hl with | [_, _, _], _ => rfl
  have F2 := fun_mk (st := s_check_integer) l2 c2 k2
  have b2 := F2.binds (ps := ["thing", "least", "most"]) fun _ _ _ _ _ _ us hl => match us, hl with | [_, _, _], _ => rfl
  have F3 := fun_mk (st := s_ramp) l3 c3 k3
  have b3 := F3.binds (ps := ["book"]) fun _ _ _ _ _ _ us hl => match us, hl with | [_], _ => rfl
  have F4 := fun_mk (st := s_end_at) l4 c4 k4
  have b4 := F4.binds (ps := ["book", "number"]) fun _ _ _ _ _ _ us hl => match us, hl with | [_, _], _ => rfl
  have F5 := fun_mk (st := s_end_behind) l5 c5 k5
  have b5 := F5.binds (ps := ["book", "number"]) fun _ _ _ _ _ _ us hl => match us, hl with | [_, _], _ => rfl
  have F6 := fun_mk (st := s_ends) l6 c6 k6
  have b6 := F6.binds (ps := ["book", "most"]) fun _ _ _ _ _ _ us hl => match us, hl with | [_, _], _ => rfl
  have F7 := fun_mk (st := s_is_end_of) l7 c7 k7
  have b7 := F7.binds (ps := ["found", "roof", "number"]) fun _ _ _ _ _ _ us hl => match us, hl with | [_, _, _], _ => rfl
  have F8 := fun_mk (st := s_is_end) l8 c8 k8
  have b8 := F8.binds (ps := ["book", "number"]) fun _ _ _ _ _ _ us hl => match us, hl with | [_, _], _ => rfl
  have F9 := fun_mk (st := s_is_share) l9 c9 k9
  have b9 := F9.binds (ps := ["thing"]) fun _ _ _ _ _ _ us hl => match us, hl with | [_], _ => rfl
  have F10 := fun_mk (st := s_part_of) l10 c10 k10
  have b10 := F10.binds (ps := ["share", "hold"]) fun _ _ _ _ _ _ us hl => match us, hl with | [_, _], _ => rfl
  have F11 := fun_mk (st := s_check_parts) l11 c11 k11
  have b11 := F11.binds (ps := ["first", "roof", "share", "ahead"]) fun _ _ _ _ _ _ us hl => match us, hl with | [_, _, _, _], _ => rfl
  have F12 := fun_mk (st := s_Book___init__) l12 c12 k12
  have D12 := funD_of (st := s_Book___init__) (kws := [("share", .ref kt12_share)]) l12 c12 k12 (List.forall_mem_cons.mpr ⟨⟨_, kw12_share, rfl⟩, fun q hq => absurd hq List.not_mem_nil⟩)
  have kb0_12 := kbt_of (ps := ["self", "first", "roof", "share"]) D12 3 ["share"] [] [] [0] (fun ts zs => match ts, zs with | [x0, x1, x2], [k0] => [x0, x1, x2, k0] | _, _ => []) (fun z => nomatch z) (by simp) (fun _ _ => .nil) (fun ts us h1 h2 => match ts, us, h1, h2 with | [_, _, _], [_], _, _ => rfl) (fun _ _ _ _ _ _ us mv ws h1 h2 h3 => match us, mv, ws, h1, h2, h3 with | [_, _, _], [], [_], _, _, _ => rfl)
  have F13 := fun_mk (st := s_Book_roof) l13 c13 k13
  have b13 := F13.binds (ps := ["self"]) fun _ _ _ _ _ _ us hl => match us, hl with | [_], _ => rfl
  have F14 := fun_mk (st := s_Book_step) l14 c14 k14
  have b14 := F14.binds (ps := ["self", "hold"]) fun _ _ _ _ _ _ us hl => match us, hl with | [_, _], _ => rfl
  have F15 := fun_mk (st := s_Book_given) l15 c15 k15
  have b15 := F15.binds (ps := ["self", "hold"]) fun _ _ _ _ _ _ us hl => match us, hl with | [_, _], _ => rfl
  have F16 := fun_mk (st := s_Book_parts) l16 c16 k16
  have b16 := F16.binds (ps := ["self"]) fun _ _ _ _ _ _ us hl => match us, hl with | [_], _ => rfl
  have F17 := fun_mk (st := s_Book___eq__) l17 c17 k17
  have b17 := F17.binds (ps := ["self", "other"]) fun _ _ _ _ _ _ us hl => match us, hl with | [_, _], _ => rfl
  have F18 := fun_mk (st := s_law_hand) l18 c18 k18
  have b18 := F18.binds (ps := ["_law_script", "_law_k"]) fun _ _ _ _ _ _ us hl => match us, hl with | [_, _], _ => rfl
  have F19 := fun_mk (st := s_law_draw) l19 c19 k19
  have b19 := F19.binds (ps := ["_law_pool", "_law_many"]) fun _ _ _ _ _ _ us hl => match us, hl with | [_, _], _ => rfl
  have F20 := fun_mk (st := s_law_parts) l20 c20 k20
  have b20 := F20.binds (ps := ["_law_pool"]) fun _ _ _ _ _ _ us hl => match us, hl with | [_], _ => rfl
  have F21 := fun_mk (st := s_law_book) l21 c21 k21
  have b21 := F21.binds (ps := ["_law_parts_here"]) fun _ _ _ _ _ _ us hl => match us, hl with | [_], _ => rfl
  have F22 := fun_mk (st := s_law_step) l22 c22 k22
  have b22 := F22.binds (ps := ["_law_parts_here", "_law_hold"]) fun _ _ _ _ _ _ us hl => match us, hl with | [_, _], _ => rfl
  have F23 := fun_mk (st := s_law_great) l23 c23 k23
  have b23 := F23.binds (ps := ["_law_pool"]) fun _ _ _ _ _ _ us hl => match us, hl with | [_], _ => rfl
  have F24 := fun_mk (st := s_law_ends) l24 c24 k24
  have b24 := F24.binds (ps := ["_law_parts_here", "_law_many"]) fun _ _ _ _ _ _ us hl => match us, hl with | [_, _], _ => rfl
  have F25 := fun_mk (st := s_law_refused) l25 c25 k25
  have b25 := F25.binds (ps := ["_law_door", "_law_book_here", "_law_thing"]) fun _ _ _ _ _ _ us hl => match us, hl with | [_, _, _], _ => rfl
  have F26 := fun_mk (st := s_law) l26 c26 k26
  have b26 := F26.binds (ps := ["_law_script"]) fun _ _ _ _ _ _ us hl => match us, hl with | [_], _ => rfl
  have FI_InvalidNumber := fun_mk (st := si_InvalidNumber) xl_InvalidNumber xc_InvalidNumber xki_InvalidNumber
  have BI_InvalidNumber := FI_InvalidNumber.binds (ps := ["self", "number"]) fun _ _ _ _ _ _ us hl => match us, hl with | [_, _], _ => rfl
  have FI_InvalidBook := fun_mk (st := si_InvalidBook) xl_InvalidBook xc_InvalidBook xki_InvalidBook
  have BI_InvalidBook := FI_InvalidBook.binds (ps := ["self", "part"]) fun _ _ _ _ _ _ us hl => match us, hl with | [_, _], _ => rfl
  have TT : Tx K mg { f_is_integer := f1, d_is_integer := _, f_check_integer := f2, d_check_integer := _, f_ramp := f3, d_ramp := _, f_end_at := f4, d_end_at := _, f_end_behind := f5, d_end_behind := _, f_ends := f6, d_ends := _, f_is_end_of := f7, d_is_end_of := _, f_is_end := f8, d_is_end := _, f_is_share := f9, d_is_share := _, f_part_of := f10, d_part_of := _, f_check_parts := f11, d_check_parts := _, f_Book___init__ := f12, d_Book___init__ := _, f_Book_roof := f13, d_Book_roof := _, f_Book_step := f14, d_Book_step := _, f_Book_given := f15, d_Book_given := _, f_Book_parts := f16, d_Book_parts := _, f_Book___eq__ := f17, d_Book___eq__ := _, f_law_hand := f18, d_law_hand := _, f_law_draw := f19, d_law_draw := _, f_law_parts := f20, d_law_parts := _, f_law_book := f21, d_law_book := _, f_law_step := f22, d_law_step := _, f_law_great := f23, d_law_great := _, f_law_ends := f24, d_law_ends := _, f_law_refused := f25, d_law_refused := _, f_law := fa, d_law := _, c_InvalidNumber := c_InvalidNumber, c_GrowError := c_GrowError, c_Book := c_Book, c_InvalidBook := c_InvalidBook, i_InvalidNumber := i_InvalidNumber, e_InvalidNumber := _, i_InvalidBook := i_InvalidBook, e_InvalidBook := _, p_Book_roof := pp13 } := { F_is_integer := F1, b_is_integer := b1, g_is_integer := PySem.W.mg_of X G a1, F_check_integer := F2, b_check_integer := b2, g_check_integer := PySem.W.mg_of X G a2, F_ramp := F3, b_ramp := b3, g_ramp := PySem.W.mg_of X G a3, F_end_at := F4, b_end_at := b4, g_end_at := PySem.W.mg_of X G a4, F_end_behind := F5, b_end_behind := b5, g_end_behind := PySem.W.mg_of X G a5, F_ends := F6, b_ends := b6, g_ends := PySem.W.mg_of X G a6, F_is_end_of := F7, b_is_end_of := b7, g_is_end_of := PySem.W.mg_of X G a7, F_is_end := F8, b_is_end := b8, g_is_end := PySem.W.mg_of X G a8, F_is_share := F9, b_is_share := b9, g_is_share := PySem.W.mg_of X G a9, F_part_of := F10, b_part_of := b10, g_part_of := PySem.W.mg_of X G a10, F_check_parts := F11, b_check_parts := b11, g_check_parts := PySem.W.mg_of X G a11, F_Book___init__ := F12, kb0_Book___init__ := kb0_12, me_Book___init__ := ⟨mi12, mf12, k12⟩, F_Book_roof := F13, b_Book_roof := b13, pr_Book_roof := ⟨pa13, pg13, pt13, _, pc13⟩, F_Book_step := F14, b_Book_step := b14, me_Book_step := ⟨mi14, mf14, k14⟩, F_Book_given := F15, b_Book_given := b15, me_Book_given := ⟨mi15, mf15, k15⟩, F_Book_parts := F16, b_Book_parts := b16, me_Book_parts := ⟨mi16, mf16, k16⟩, F_Book___eq__ := F17, b_Book___eq__ := b17, me_Book___eq__ := ⟨mi17, mf17, k17⟩, F_law_hand := F18, b_law_hand := b18, g_law_hand := PySem.W.mg_of X G a18, F_law_draw := F19, b_law_draw := b19, g_law_draw := PySem.W.mg_of X G a19, F_law_parts := F20, b_law_parts := b20, g_law_parts := PySem.W.mg_of X G a20, F_law_book := F21, b_law_book := b21, g_law_book := PySem.W.mg_of X G a21, F_law_step := F22, b_law_step := b22, g_law_step := PySem.W.mg_of X G a22, F_law_great := F23, b_law_great := b23, g_law_great := PySem.W.mg_of X G a23, F_law_ends := F24, b_law_ends := b24, g_law_ends := PySem.W.mg_of X G a24, F_law_refused := F25, b_law_refused := b25, g_law_refused := PySem.W.mg_of X G a25, F_law := F26, b_law := b26, g_law := PySem.W.mg_of X G a26, z_bool := PySem.W.mg_none_of X G z_bool, z_int := PySem.W.mg_none_of X G z_int, z_isinstance := PySem.W.mg_none_of X G z_isinstance, z_len := PySem.W.mg_none_of X G z_len, z_max := PySem.W.mg_none_of X G z_max, z_min := PySem.W.mg_none_of X G z_min, z_range := PySem.W.mg_none_of X G z_range, z_repr := PySem.W.mg_none_of X G z_repr, z_tuple := PySem.W.mg_none_of X G z_tuple, c_MOST := ⟨_, PySem.W.mg_of X G c_MOST⟩, c_MOST_GROWTH_checks := ⟨_, PySem.W.mg_of X G c_MOST_GROWTH_checks⟩, c_MOST_GROWTH_numbers := ⟨_, PySem.W.mg_of X G c_MOST_GROWTH_numbers⟩, c_MOST_NUMBER := ⟨_, PySem.W.mg_of X G c_MOST_NUMBER⟩, c_MOST_SHARE := ⟨_, PySem.W.mg_of X G c_MOST_SHARE⟩, g_InvalidNumber := PySem.W.mg_of X G ga_InvalidNumber, g_GrowError := PySem.W.mg_of X G ga_GrowError, g_Book := PySem.W.mg_of X G ga_Book, g_InvalidBook := PySem.W.mg_of X G ga_InvalidBook, cl_Book := ⟨wpg_Book, whd_Book, wpo_Book, wsa_Book⟩, mk_Book := ⟨wmk_Book, mi12, mf12, wkp_Book⟩, ne_Book := wne_Book, so_Book := wso_Book, ty_Book := fun H a dx fs e => .base (.ins e ⟨wpg_Book, whd_Book, wpo_Book, wsa_Book⟩ wcl_Book wsp_Book wtk_Book wmr_Book), kn_Book := fun k => match k with | .non => wk_non_Book | .bl => wk_bl_Book | .int => wk_int_Book | .str => wk_str_Book | .tup => wk_tup_Book | .lst => wk_lst_Book, ki_Book_Book := wi_Book_Book, na_Book_own_share := wn_Book_own_share, na_Book_own_roof := wn_Book_own_roof, na_Book_own_first := wn_Book_own_first, o_InvalidNumber := ⟨⟨_, _, _, _, _, _, _, _, _, _, _, _, _, _, _, xL_InvalidNumber, rfl⟩, xsa_InvalidNumber, xe_InvalidNumber, xty_InvalidNumber, xk_InvalidNumber⟩, i_InvalidNumber := xi_InvalidNumber, t_InvalidNumber := xt_InvalidNumber, n_InvalidNumber := xnf_InvalidNumber, FI_InvalidNumber := FI_InvalidNumber, BI_InvalidNumber := BI_InvalidNumber, x_InvalidNumber := ⟨xga_InvalidNumber, xgg_InvalidNumber, xe_InvalidNumber, xh_InvalidNumber⟩, q_InvalidNumber := ⟨xga_InvalidNumber, xgg_InvalidNumber, xe_InvalidNumber, xh_InvalidNumber, xcl_InvalidNumber, xsp_InvalidNumber, xtk_InvalidNumber, xm_InvalidNumber⟩, o_InvalidBook := ⟨⟨_, _, _, _, _, _, _, _, _, _, _, _, _, _, _, xL_InvalidBook, rfl⟩, xsa_InvalidBook, xe_InvalidBook, xty_InvalidBook, xk_InvalidBook⟩, i_InvalidBook := xi_InvalidBook, t_InvalidBook := xt_InvalidBook, n_InvalidBook := xnf_InvalidBook, FI_InvalidBook := FI_InvalidBook, BI_InvalidBook := BI_InvalidBook, x_InvalidBook := ⟨xga_InvalidBook, xgg_InvalidBook, xe_InvalidBook, xh_InvalidBook⟩, q_InvalidBook := ⟨xga_InvalidBook, xgg_InvalidBook, xe_InvalidBook, xh_InvalidBook, xcl_InvalidBook, xsp_InvalidBook, xtk_InvalidBook, xm_InvalidBook⟩, s_InvalidNumber := xst_InvalidNumber, m_InvalidNumber_GrowError := PySem.W.exm_ref ye_GrowError yh_GrowError yt_GrowError ys_InvalidNumber_GrowError, m_InvalidBook_GrowError := PySem.W.exm_ref ye_GrowError yh_GrowError yt_GrowError ys_InvalidBook_GrowError, k_InvalidNumber_InvalidNumber := yk_InvalidNumber_InvalidNumber, k_InvalidBook_InvalidNumber := yk_InvalidBook_InvalidNumber, k_InvalidNumber_InvalidBook := yk_InvalidNumber_InvalidBook, k_InvalidBook_InvalidBook := yk_InvalidBook_InvalidBook }
  refine ⟨_, [], liftSp K 1 (C_law), fun p hp => absurd hp List.not_mem_nil, fun s v => .of_eq rfl, fun H a0 ns hl hH hS => ?_, fun base _ _ hT => ok_law TT⟩
  exact law_startT [] (fun p hp => absurd hp List.not_mem_nil) hS (law_tabs TT hl )
end TL
open PySem PySem.W PyProof.Rows
set_option maxHeartbeats 0 in
theorem PySem.Challenge.cw_grownfiles_k50_hold_ends_holds : PySem.Challenge.rw_grownfiles_k50_hold_ends.Holds := by
  w_on; o_law; k_head; (case hw => w_witness2)
  k_fill
  refine TL.walk_tabG (l := PySem.Challenge.rw_grownfiles_k50_hold_ends) (n := 63) (k := 10) (x := "_law_script") rfl (by decide) rfl ⟨rfl, by decide, by decide⟩ (fun w h Y => by first | exact PySem.W.kIn_of Y | exact PySem.W.km_in_of Y) ?F
  case F =>
    intro w mg fa h KX G hmg
    refine' TL.all_mk KX G hmg ?a1 ?l1 ?c1 ?k1 ?a2 ?l2 ?c2 ?k2 ?a3 ?l3 ?c3 ?k3 ?a4 ?l4 ?c4 ?k4 ?a5 ?l5 ?c5 ?k5 ?a6 ?l6 ?c6 ?k6 ?a7 ?l7 ?c7 ?k7 ?a8 ?l8 ?c8 ?k8 ?a9 ?l9 ?c9 ?k9 ?a10 ?l10 ?c10 ?k10 ?a11 ?l11 ?c11 ?k11 ?a18 ?l18 ?c18 ?k18 ?a19 ?l19 ?c19 ?k19 ?a20 ?l20 ?c20 ?k20 ?a21 ?l21 ?c21 ?k21 ?a22 ?l22 ?c22 ?k22 ?a23 ?l23 ?c23 ?k23 ?a24 ?l24 ?c24 ?k24 ?a25 ?l25 ?c25 ?k25 ?a26 ?l26 ?c26 ?k26 ?z_bool ?z_int ?z_isinstance ?z_len ?z_max ?z_min ?z_range ?z_repr ?z_tuple ?c_MOST ?c_MOST_GROWTH_checks ?c_MOST_GROWTH_numbers ?c_MOST_NUMBER ?c_MOST_SHARE ?ga_InvalidNumber ?ga_GrowError ?ga_Book ?ga_InvalidBook ?mi12 ?mf12 ?l12 ?c12 ?k12 ?kw12_share ?pa13 ?pg13 ?pt13 ?pc13 ?l13 ?c13 ?k13 ?mi14 ?mf14 ?l14 ?c14 ?k14 ?mi15 ?mf15 ?l15 ?c15 ?k15 ?mi16 ?mf16 ?l16 ?c16 ?k16 ?mi17 ?mf17 ?l17 ?c17 ?k17 ?wpg_Book ?whd_Book ?wpo_Book ?wsa_Book ?wmk_Book ?wkp_Book ?wne_Book ?wso_Book ?wcl_Book ?wsp_Book ?wtk_Book ?wmr_Book ?wk_non_Book ?wk_bl_Book ?wk_int_Book ?wk_str_Book ?wk_tup_Book ?wk_lst_Book ?wi_Book_Book ?wn_Book_own_share ?wn_Book_own_roof ?wn_Book_own_first ?xL_InvalidNumber ?xsa_InvalidNumber ?xga_InvalidNumber ?xgg_InvalidNumber ?xnf_InvalidNumber ?xi_InvalidNumber ?xt_InvalidNumber ?xl_InvalidNumber ?xc_InvalidNumber ?xki_InvalidNumber ?xk_InvalidNumber ?xe_InvalidNumber ?xty_InvalidNumber ?xh_InvalidNumber ?xcl_InvalidNumber ?xsp_InvalidNumber ?xtk_InvalidNumber ?xm_InvalidNumber ?xL_InvalidBook ?xsa_InvalidBook ?xga_InvalidBook ?xgg_InvalidBook ?xnf_InvalidBook ?xi_InvalidBook ?xt_InvalidBook ?xl_InvalidBook ?xc_InvalidBook ?xki_InvalidBook ?xk_InvalidBook ?xe_InvalidBook ?xty_InvalidBook ?xh_InvalidBook ?xcl_InvalidBook ?xsp_InvalidBook ?xtk_InvalidBook ?xm_InvalidBook ?xst_InvalidNumber ?ye_GrowError ?yh_GrowError ?yt_GrowError ?ys_InvalidNumber_GrowError ?ys_InvalidBook_GrowError ?yk_InvalidNumber_InvalidNumber ?yk_InvalidBook_InvalidNumber ?yk_InvalidNumber_InvalidBook ?yk_InvalidBook_InvalidBook
    (case a1 => k_is)
    (case l1 => k_is)
    (case c1 => k_is)
    (case k1 => k_is)
    (case a2 => k_is)
    (case l2 => k_is)
    (case c2 => k_is)
    (case k2 => k_is)
    (case a3 => k_is)
    (case l3 => k_is)
    (case c3 => k_is)
    (case k3 => k_is)
    (case a4 => k_is)
    (case l4 => k_is)
    (case c4 => k_is)
    (case k4 => k_is)
    (case a5 => k_is)
    (case l5 => k_is)
    (case c5 => k_is)
    (case k5 => k_is)
    (case a6 => k_is)
    (case l6 => k_is)
    (case c6 => k_is)
    (case k6 => k_is)
    (case a7 => k_is)
    (case l7 => k_is)
    (case c7 => k_is)
    (case k7 => k_is)
    (case a8 => k_is)
    (case l8 => k_is)
    (case c8 => k_is)
    (case k8 => k_is)
    (case a9 => k_is)
    (case l9 => k_is)
    (case c9 => k_is)
    (case k9 => k_is)
    (case a10 => k_is)
    (case l10 => k_is)
    (case c10 => k_is)
    (case k10 => k_is)
    (case a11 => k_is)
    (case l11 => k_is)
    (case c11 => k_is)
    (case k11 => k_is)
    (case a18 => k_is)
    (case l18 => k_is)
    (case c18 => k_is)
    (case k18 => k_is)
    (case a19 => k_is)
    (case l19 => k_is)
    (case c19 => k_is)
    (case k19 => k_is)
    (case a20 => k_is)
    (case l20 => k_is)
    (case c20 => k_is)
    (case k20 => k_is)
    (case a21 => k_is)
    (case l21 => k_is)
    (case c21 => k_is)
    (case k21 => k_is)
    (case a22 => k_is)
    (case l22 => k_is)
    (case c22 => k_is)
    (case k22 => k_is)
    (case a23 => k_is)
    (case l23 => k_is)
    (case c23 => k_is)
    (case k23 => k_is)
    (case a24 => k_is)
    (case l24 => k_is)
    (case c24 => k_is)
    (case k24 => k_is)
    (case a25 => k_is)
    (case l25 => k_is)
    (case c25 => k_is)
    (case k25 => k_is)
    (case a26 => k_is)
    (case l26 => k_is)
    (case c26 => k_is)
    (case k26 => k_is)
    (case z_bool => k_is)
    (case z_int => k_is)
    (case z_isinstance => k_is)
    (case z_len => k_is)
    (case z_max => k_is)
    (case z_min => k_is)
    (case z_range => k_is)
    (case z_repr => k_is)
    (case z_tuple => k_is)
    (case c_MOST => k_is)
    (case c_MOST_GROWTH_checks => k_is)
    (case c_MOST_GROWTH_numbers => k_is)
    (case c_MOST_NUMBER => k_is)
    (case c_MOST_SHARE => k_is)
    (case ga_InvalidNumber => k_is)
    (case ga_GrowError => k_is)
    (case ga_Book => k_is)
    (case ga_InvalidBook => k_is)
    (case mi12 => k_is)
    (case mf12 => k_is)
    (case l12 => k_is)
    (case c12 => k_is)
    (case k12 => k_is)
    (case kw12_share => k_is)
    (case pa13 => k_is)
    (case pg13 => k_is)
    (case pt13 => k_is)
    (case pc13 => k_is)
    (case l13 => k_is)
    (case c13 => k_is)
    (case k13 => k_is)
    (case mi14 => k_is)
    (case mf14 => k_is)
    (case l14 => k_is)
    (case c14 => k_is)
    (case k14 => k_is)
    (case mi15 => k_is)
    (case mf15 => k_is)
    (case l15 => k_is)
    (case c15 => k_is)
    (case k15 => k_is)
    (case mi16 => k_is)
    (case mf16 => k_is)
    (case l16 => k_is)
    (case c16 => k_is)
    (case k16 => k_is)
    (case mi17 => k_is)
    (case mf17 => k_is)
    (case l17 => k_is)
    (case c17 => k_is)
    (case k17 => k_is)
    (case wpg_Book => k_is)
    (case whd_Book => k_is)
    (case wpo_Book => k_is)
    (case wsa_Book => k_is)
    (case wmk_Book => k_is)
    (case wkp_Book => k_is)
    (case wne_Book => k_is)
    (case wso_Book => k_is)
    (case wcl_Book => k_is)
    (case wsp_Book => k_is)
    (case wtk_Book => k_is)
    (case wmr_Book => k_is)
    (case wk_non_Book => first | rfl | k_is)
    (case wk_bl_Book => first | rfl | k_is)
    (case wk_int_Book => first | rfl | k_is)
    (case wk_str_Book => first | rfl | k_is)
    (case wk_tup_Book => first | rfl | k_is)
    (case wk_lst_Book => first | rfl | k_is)
    (case wi_Book_Book => first | rfl | k_is)
    (case wn_Book_own_share => k_is)
    (case wn_Book_own_roof => k_is)
    (case wn_Book_own_first => k_is)
    (case xL_InvalidNumber => k_is)
    (case xsa_InvalidNumber => k_is)
    (case xga_InvalidNumber => k_is)
    (case xgg_InvalidNumber => k_is)
    (case xnf_InvalidNumber => k_is)
    (case xi_InvalidNumber => k_is)
    (case xt_InvalidNumber => k_is)
    (case xl_InvalidNumber => k_is)
    (case xc_InvalidNumber => k_is)
    (case xki_InvalidNumber => k_is)
    (case xk_InvalidNumber => k_is)
    (case xe_InvalidNumber => k_is)
    (case xty_InvalidNumber => k_is)
    (case xh_InvalidNumber => k_is)
    (case xcl_InvalidNumber => k_is)
    (case xsp_InvalidNumber => k_is)
    (case xtk_InvalidNumber => k_is)
    (case xm_InvalidNumber => k_is)
    (case xL_InvalidBook => k_is)
    (case xsa_InvalidBook => k_is)
    (case xga_InvalidBook => k_is)
    (case xgg_InvalidBook => k_is)
    (case xnf_InvalidBook => k_is)
    (case xi_InvalidBook => k_is)
    (case xt_InvalidBook => k_is)
    (case xl_InvalidBook => k_is)
    (case xc_InvalidBook => k_is)
    (case xki_InvalidBook => k_is)
    (case xk_InvalidBook => k_is)
    (case xe_InvalidBook => k_is)
    (case xty_InvalidBook => k_is)
    (case xh_InvalidBook => k_is)
    (case xcl_InvalidBook => k_is)
    (case xsp_InvalidBook => k_is)
    (case xtk_InvalidBook => k_is)
    (case xm_InvalidBook => k_is)
    (case xst_InvalidNumber => k_is)
    (case ye_GrowError => k_is)
    (case yh_GrowError => k_is)
    (case yt_GrowError => k_is)
    (case ys_InvalidNumber_GrowError => first | rfl | k_is)
    (case ys_InvalidBook_GrowError => first | rfl | k_is)
    (case yk_InvalidNumber_InvalidNumber => first | rfl | k_is)
    (case yk_InvalidBook_InvalidNumber => first | rfl | k_is)
    (case yk_InvalidNumber_InvalidBook => first | rfl | k_is)
    (case yk_InvalidBook_InvalidBook => first | rfl | k_is)
