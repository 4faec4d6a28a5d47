import PyProof.Rows.All
import Wide.All
import OpenK.AllK
import Wide.FinOn
import HandS.Exc
import HandS.ExcOwn
import HandS.ExcInit
import HandS.ExcCtx
import HandS.Hot
import HandS.HotCalls
import HandS.ExcInitHot
import HandS.WordsExc
import HandS.TryOnly
import HandS.TryMany
import HandS.RaiseFrom
import HandS.ForMost
import HandS.CallSlots
import HandS.Wide
import HandS.Deep
import HandS.IsInst
import HandS.Flow
import HandS.EndTab
import HandS.ExcIs
import HandS.ExcField
import KE.KExcIs
import HandS.Property
import HandS.MakeKwOnly
import HandS.Defaults
import HandS.Style
import HandS.RaiseMore
import HandS.DictComp
import PyProof.InstNe
import PyProof.LongRange
import KE.KCallOwn
import HandS.More
import HandS.Conv
import HandS.ListItems
import HandS.Lambda
import KE.SortUse
import HandS.RevTup
import KE.KOpsOwn
import HandS.GenList
import HandS.GenYield
import HandS.NoneIn
import PyProof.WalksMore
import PyProof.SumWalkG
import KE.KDictList
import HandS.Small
import HandS.TupAny
import HandS.Star
import PySem.Challenge.RW_grownfiles_k32_errors
set_option Elab.async false
set_option linter.all false
set_option maxRecDepth 100000
set_option maxHeartbeats 2000000
namespace TL
open PySem PySem.Spec PyProof.Rows L2
section
variable {X : Cx} {W : WX}
theorem cxN {P : Program} {w : World} {outer : List Env} {H : Hp} {s : Shared} {E : XK} {u : Value} {s' : Shared} (c : L2N.CX P w outer H s E u s') : L2.CX P w outer H s E u s' := by
  obtain ⟨a, B, H', cls, d, e, fl, r⟩ := c
  exact ⟨a, B, H', cls, d, e, ⟨fl.1, fl.2.1, fl.2.2.1, by obtain ⟨oe, vs, T, oT, ts, he, hz, r⟩ := fl.2.2.2; exact ⟨oe, vs, T, oT, ts, he, hz.zc, r⟩⟩, r⟩
end
section
variable {P : Program} {w : World} {K : PySem.W.Frag} {mg : Str → Option Value} {base : Heap} {k : Nat} {f : Addr} {fd : FuncData} {ps : List Str} {sp : Sp}
theorem _root_.L2.FnOk.gen (F : FnOk P w K mg base (L2N.CX P w) k f fd ps sp) : FnOk P w K mg base (L2.CX P w) k f fd ps sp :=
  ⟨F.len, fun A outer s H args us vs Q E hr e0 b v q => codeAny_mono (F.run A outer s H args us vs Q E hr e0 b v q) fun r s' h => by
    cases r with
    | error e => exact cxN h
    | ok fl => cases fl <;> exact h⟩
theorem _root_.L2.Fun.okC {CX : CXT} {x qual : Str} {st : Stmt} {N : List Str} (F : Fun K x qual st f fd) (S : FnScope N ps (defScope st)) (len : ∀ vs H Q E, sp vs H Q E → vs.length = ps.length)
    (hbody : ∀ (cdv : Value) (A : Around) (outer : List Env) (s : Shared) (H : Hp) (vs : List V) (Q : VK) (E : XK), Room k (A.deeper (envOfC qual (defScope st) s.heap.objs.size f cdv)) → sp vs H Q E →
      ∃ t, PSs (cxOf CX P w K mg base N qual (defScope st) f cdv A outer s H E) (defBody st) t ∧ t { nx := fun _ H' => Q .non H', rt := Q } (start N vs) H) : FnOk P w K mg base CX (k + 1) f fd ps sp := by
  obtain ⟨oc, od, kV, doc, pm, an, cdv, ct, osl, rfl, lk, hcd⟩ := F.ex
  exact fn_of lk hcd S len fun A outer s H vs Q E hr hsp => hbody cdv A outer s H vs Q E hr hsp
end
section
variable {X : Cx} {x : Str} {c : Value} {body suite : List Stmt} {b₀ : Stmt} {np pos pos' : Pos} {tb : WX → TS} {ts : Addr → Value → Option Addr → TS} {Wout : WX}
end
end TL

set_option maxHeartbeats 2000000
namespace TL
open PySem PySem.Spec PyProof.Rows L2 L2H HotX
section
variable {X : Cx} {pins : List (Addr × Obj)} {σ : L2.St} {H : Hp} {s sI s' : Shared}
end
section
variable {X : Cx} {pins : List (Addr × Obj)} {σ : L2.St} {H : Hp} {s : Shared} {B : Heap}
end
section
variable {X : Cx} {x n : Str} {c : Value} {i : Nat} {body suite : List Stmt} {b₀ : Stmt} {np pos pos' : Pos} {tb : WX → TS} {ts : Addr → Value → Option Addr → TS} {Wout : WX}
end
end TL

namespace TL
open PySem L2

inductive T where
  | non | bl (b : Bool) | int (i : Int) | str (x : Str)
  | tup (ts : List T) | lst (ts : List T) | ins (C : Addr) (fs : List (Str × T))
  | ref (a : Addr) | ty (n : String) | scr (ns : List Int)
  | exc (a : Addr) (cls : Value) (d : Option Addr) (fs : List (Str × T))
  | xob (C : Addr) (fs : List (Str × T))
  deriving Inhabited

inductive O where
  | lst (ts : List T) | ins (C : Addr) (fs : List (Str × T)) | pool
  | dK (kvs : List (Key × T)) | dT (kvs : List (List Key × T)) | tab (q : Str)
  | dL (u : HO) (kvs : List (Key × T))
abbrev Hq := Addr → Option O
def put (h : Hq) (a : Addr) (o : O) : Hq := fun b => if b = a then some o else h b
def del (h : Hq) (a : Addr) : Hq := fun b => if b = a then none else h b
@[simp] theorem put_same {h : Hq} {a : Addr} {o : O} : put h a o a = some o := by unfold put; rw [if_pos rfl]
theorem put_ne {h : Hq} {a b : Addr} {o : O} (e : b ≠ a) : put h a o b = h b := by unfold put; rw [if_neg e]
@[simp] theorem put_put {h : Hq} {a : Addr} {o u : O} : put (put h a o) a u = put h a u := by funext b; unfold put; split <;> rfl
theorem put_id {h : Hq} {a : Addr} {o : O} (e : h a = some o) : put h a o = h := by
  funext b; unfold put; split
  · rename_i q; rw [q, e]
  · rfl
theorem del_put {h : Hq} {a : Addr} {o : O} (e : h a = none) : del (put h a o) a = h := by
  funext b; unfold del put; split
  · rename_i q; rw [q, e]
  · rfl
def KL (K : PySem.W.Frag) (a : Addr) (xs : List V) : Prop :=
  ∃ (o : Obj) (its : Array Value) (n : Nat), K.lookup a = some o ∧ o.cls = .type "list" ∧ o.dict = none ∧ o.data = .seq its n ∧ its.size ≤ sizeLine ∧ Vals xs its.toList
def KT (K : PySem.W.Frag) (a : Addr) (xs : List V) : Prop :=
  ∃ (o : Obj) (its : Array Value) (n : Nat), K.lookup a = some o ∧ o.cls = .type "tuple" ∧ o.data = .seq its n ∧ its.size ≤ sizeLine ∧ Vals xs its.toList

structure Fz where
  s : Addr → Prop
  p : Addr → Prop
def Fz.has (S : Fz) (a : Addr) : Prop := S.s a ∨ S.p a
def XOk (φ : Heap → Prop) (a C dd : Addr) : Prop := ∀ h : Heap, φ h → ∃ oe : Obj, h.get? a = some oe ∧ Zc (.ref C) (some dd) oe ∧ ∃ vs, oe.data = .fields vs
mutual
inductive Rep (K : PySem.W.Frag) (S : Fz) (H : Hp) : V → T → Prop
  | non : Rep K S H .non .non
  | bl (b : Bool) : Rep K S H (.bl b) (.bl b)
  | int (i : Int) : Rep K S H (.int i) (.int i)
  | str (x : Str) : Rep K S H (.str x) (.str x)
  | tup {a : Addr} {vs : List V} {ts : List T} : S.s a → H a = some (.tup vs) → RepL K S H vs ts → Rep K S H (.ref a) (.tup ts)
  | tupK {a : Addr} {vs : List V} {ts : List T} : KT K a vs → RepL K S H vs ts → Rep K S H (.ref a) (.tup ts)
  | lst {a : Addr} {vs : List V} {ts : List T} : S.s a → H a = some (.lst vs) → RepL K S H vs ts → Rep K S H (.ref a) (.lst ts)
  | scr {a : Addr} {ns : List Int} : S.s a → Rd H a (.lst (ns.map V.int)) → Rep K S H (.ref a) (.scr ns)
  | scrK {a : Addr} {ns : List Int} : KL K a (ns.map V.int) → Rep K S H (.ref a) (.scr ns)
  | ins {a C dx : Addr} {fs : List (Str × V)} {gs : List (Str × T)} : S.s a → H a = some (.ins C dx fs) → RepF K S H fs gs → Rep K S H (.ref a) (.ins C gs)
  | ref (a : Addr) : Rep K S H (.ref a) (.ref a)
  | ty (n : String) : Rep K S H (.ty n) (.ty n)
  | exc {a dd : Addr} {cls : Value} {fs : List (Str × V)} {gs : List (Str × T)} : S.s dd → H dd = some (.xd fs) → RepF K S H fs gs → Rep K S H (.ref a) (.exc a cls (some dd) gs)
  | exc0 {a : Addr} {cls : Value} : Rep K S H (.ref a) (.exc a cls none [])
  | xob {a dd C : Addr} {φ : Heap → Prop} {fs : List (Str × V)} {gs : List (Str × T)} : S.s a → H a = some (.ext φ) → XOk φ a C dd → S.s dd → H dd = some (.xd fs) → RepF K S H fs gs → Rep K S H (.ref a) (.xob C gs)
inductive RepL (K : PySem.W.Frag) (S : Fz) (H : Hp) : List V → List T → Prop
  | nil : RepL K S H [] []
  | cons {v : V} {vs : List V} {t : T} {ts : List T} : Rep K S H v t → RepL K S H vs ts → RepL K S H (v :: vs) (t :: ts)
inductive RepF (K : PySem.W.Frag) (S : Fz) (H : Hp) : List (Str × V) → List (Str × T) → Prop
  | nil : RepF K S H [] []
  | cons {f : Str} {v : V} {vs : List (Str × V)} {t : T} {ts : List (Str × T)} : Rep K S H v t → RepF K S H vs ts → RepF K S H ((f, v) :: vs) ((f, t) :: ts)
end

structure Fut (S : Fz) (H : Hp) (S1 : Fz) (H1 : Hp) : Prop where
  sub : ∀ a, S.s a → S1.s a
  kp : ∀ a, S.has a → H1 a = H a
  pe : S1.p = S.p
theorem Fut.refl {S : Fz} {H : Hp} : Fut S H S H := ⟨fun _ h => h, fun _ _ => rfl, rfl⟩
theorem Fut.trans {S S1 S2 : Fz} {H H1 H2 : Hp} (a : Fut S H S1 H1) (b : Fut S1 H1 S2 H2) : Fut S H S2 H2 :=
  ⟨fun x h => b.sub x (a.sub x h), fun x h => (b.kp x (h.elim (fun z => .inl (a.sub x z)) fun z => .inr (a.pe ▸ z))).trans (a.kp x h), b.pe.trans a.pe⟩
theorem Fut.rd {S S1 : Fz} {H H1 : Hp} (f : Fut S H S1 H1) {a : Addr} {u : HO} (s : S.s a) (h : Rd H a u) : Rd H1 a u := by
  unfold Rd at *; rw [f.kp a (.inl s)]; exact h
structure Fu (S : Fz) (H : Hp) (S1 : Fz) (H1 : Hp) : Prop where
  sub : ∀ a, S.s a → S1.s a
  kp : ∀ a, S.s a → H1 a = H a
theorem Fut.fu {S S1 : Fz} {H H1 : Hp} (f : Fut S H S1 H1) : Fu S H S1 H1 := ⟨f.sub, fun a s => f.kp a (.inl s)⟩
theorem Fu.trans {S S1 S2 : Fz} {H H1 H2 : Hp} (a : Fu S H S1 H1) (b : Fu S1 H1 S2 H2) : Fu S H S2 H2 := ⟨fun x h => b.sub x (a.sub x h), fun x h => (b.kp x (a.sub x h)).trans (a.kp x h)⟩
theorem Fu.rd {S S1 : Fz} {H H1 : Hp} (f : Fu S H S1 H1) {a : Addr} {u : HO} (s : S.s a) (h : Rd H a u) : Rd H1 a u := by
  unfold Rd at *; rw [f.kp a s]; exact h
section
variable {K : PySem.W.Frag} {S S1 : Fz} {H H1 : Hp}
mutual
theorem Rep.fu (f : Fu S H S1 H1) : ∀ {v : V} {t : T}, Rep K S H v t → Rep K S1 H1 v t
  | _, _, .non => .non
  | _, _, .bl b => .bl b
  | _, _, .int i => .int i
  | _, _, .str x => .str x
  | _, _, .tup s h r => .tup (f.sub _ s) ((f.kp _ s).trans h) (RepL.fu f r)
  | _, _, .tupK h r => .tupK h (RepL.fu f r)
  | _, _, .lst s h r => .lst (f.sub _ s) ((f.kp _ s).trans h) (RepL.fu f r)
  | _, _, .scr s h => .scr (f.sub _ s) (f.rd s h)
  | _, _, .scrK h => .scrK h
  | _, _, .ins s h r => .ins (f.sub _ s) ((f.kp _ s).trans h) (RepF.fu f r)
  | _, _, .ref a => .ref a
  | _, _, .ty n => .ty n
  | _, _, .exc s h r => .exc (f.sub _ s) ((f.kp _ s).trans h) (RepF.fu f r)
  | _, _, .exc0 => .exc0
  | _, _, .xob s h k s' h' r => .xob (f.sub _ s) ((f.kp _ s).trans h) k (f.sub _ s') ((f.kp _ s').trans h') (RepF.fu f r)
theorem RepL.fu (f : Fu S H S1 H1) : ∀ {v : List V} {t : List T}, RepL K S H v t → RepL K S1 H1 v t
  | _, _, .nil => .nil
  | _, _, .cons r q => .cons (Rep.fu f r) (RepL.fu f q)
theorem RepF.fu (f : Fu S H S1 H1) : ∀ {v : List (Str × V)} {t : List (Str × T)}, RepF K S H v t → RepF K S1 H1 v t
  | _, _, .nil => .nil
  | _, _, .cons r q => .cons (Rep.fu f r) (RepF.fu f q)
end
theorem Rep.fut (f : Fut S H S1 H1) {v : V} {t : T} (r : Rep K S H v t) : Rep K S1 H1 v t := r.fu f.fu
theorem RepL.fut (f : Fut S H S1 H1) {v : List V} {t : List T} (r : RepL K S H v t) : RepL K S1 H1 v t := r.fu f.fu
theorem RepF.fut (f : Fut S H S1 H1) {v : List (Str × V)} {t : List (Str × T)} (r : RepF K S H v t) : RepF K S1 H1 v t := r.fu f.fu
mutual
theorem Rep.fut' (f : ∀ a, S.s a → S1.s a) : ∀ {v : V} {t : T}, Rep K S H v t → Rep K S1 H v t
  | _, _, .non => .non
  | _, _, .bl b => .bl b
  | _, _, .int i => .int i
  | _, _, .str x => .str x
  | _, _, .tup s h r => .tup (f _ s) h (RepL.fut' f r)
  | _, _, .tupK h r => .tupK h (RepL.fut' f r)
  | _, _, .lst s h r => .lst (f _ s) h (RepL.fut' f r)
  | _, _, .scr s h => .scr (f _ s) h
  | _, _, .scrK h => .scrK h
  | _, _, .ins s h r => .ins (f _ s) h (RepF.fut' f r)
  | _, _, .ref a => .ref a
  | _, _, .ty n => .ty n
  | _, _, .exc s h r => .exc (f _ s) h (RepF.fut' f r)
  | _, _, .exc0 => .exc0
  | _, _, .xob s h k s' h' r => .xob (f _ s) h k (f _ s') h' (RepF.fut' f r)
theorem RepL.fut' (f : ∀ a, S.s a → S1.s a) : ∀ {v : List V} {t : List T}, RepL K S H v t → RepL K S1 H v t
  | _, _, .nil => .nil
  | _, _, .cons r q => .cons (Rep.fut' f r) (RepL.fut' f q)
theorem RepF.fut' (f : ∀ a, S.s a → S1.s a) : ∀ {v : List (Str × V)} {t : List (Str × T)}, RepF K S H v t → RepF K S1 H v t
  | _, _, .nil => .nil
  | _, _, .cons r q => .cons (Rep.fut' f r) (RepF.fut' f q)
end
theorem Rep.scr_sq {v : V} {ns : List Int} (r : Rep K S H v (.scr ns)) : ∃ a, v = .ref a ∧ SqL K H a (ns.map V.int) ∧ ∀ S1 H1, Fu S H S1 H1 → SqL K H1 a (ns.map V.int) := by
  cases r with
  | scr s h => exact ⟨_, rfl, .inl h, fun S1 H1 f => .inl (f.rd s h)⟩
  | scrK h => exact ⟨_, rfl, .inr h, fun S1 H1 f => .inr h⟩
theorem RepL.length : ∀ {v : List V} {t : List T}, RepL K S H v t → v.length = t.length
  | _, _, .nil => rfl
  | _, _, .cons _ q => congrArg (· + 1) (RepL.length q)
theorem RepL.get : ∀ {v : List V} {t : List T} {i : Nat} {y : T}, RepL K S H v t → t[i]? = some y → ∃ x, v[i]? = some x ∧ Rep K S H x y
  | _, _, _, _, .nil, e => by simp at e
  | _, _, 0, _, .cons r _, e => by simp at e; subst e; exact ⟨_, rfl, r⟩
  | _, _, i + 1, y, .cons _ q, e => by
    obtain ⟨x, h1, h2⟩ := RepL.get (i := i) (y := y) q (by simpa using e)
    exact ⟨x, by simpa using h1, h2⟩
theorem RepL.append : ∀ {v w : List V} {t u : List T}, RepL K S H v t → RepL K S H w u → RepL K S H (v ++ w) (t ++ u)
  | _, _, _, _, .nil, s => s
  | _, _, _, _, .cons r q, s => .cons r (RepL.append q s)
theorem RepL.take : ∀ (n : Nat) {v : List V} {t : List T}, RepL K S H v t → RepL K S H (v.take n) (t.take n)
  | 0, _, _, _ => .nil
  | _ + 1, _, _, .nil => .nil
  | n + 1, _, _, .cons r q => .cons r (RepL.take n q)
theorem RepL.drop : ∀ (n : Nat) {v : List V} {t : List T}, RepL K S H v t → RepL K S H (v.drop n) (t.drop n)
  | 0, _, _, r => r
  | _ + 1, _, _, .nil => .nil
  | n + 1, _, _, .cons _ q => RepL.drop n q
theorem RepL.set {x : V} {y : T} (r : Rep K S H x y) : ∀ (i : Nat) {v : List V} {t : List T}, RepL K S H v t → RepL K S H (v.set i x) (t.set i y)
  | _, _, _, .nil => .nil
  | 0, _, _, .cons _ q => .cons r q
  | i + 1, _, _, .cons p q => .cons p (RepL.set r i q)
theorem RepL.dropLast : ∀ {v : List V} {t : List T}, RepL K S H v t → RepL K S H v.dropLast t.dropLast
  | _, _, .nil => .nil
  | _, _, .cons r .nil => .nil
  | _, _, .cons r (.cons p q) => .cons r (RepL.dropLast (.cons p q))
theorem RepL.replicate (n : Nat) {v : List V} {t : List T} (r : RepL K S H v t) : RepL K S H (List.replicate n v).flatten (List.replicate n t).flatten := by
  induction n with
  | zero => exact .nil
  | succ n ih => rw [List.replicate_succ, List.replicate_succ, List.flatten_cons, List.flatten_cons]; exact r.append ih
theorem RepL.ints : ∀ {v : List V} {ns : List Int}, RepL K S H v (ns.map T.int) → v = ns.map V.int
  | _, [], .nil => rfl
  | _, n :: ns, .cons r q => by
    cases r
    rw [RepL.ints (ns := ns) q]
    rfl
theorem RepL.of_ints : ∀ (ns : List Int), RepL K S H (ns.map V.int) (ns.map T.int)
  | [] => .nil
  | n :: ns => .cons (.int n) (RepL.of_ints ns)
end

def RepD {κ : Type} (K : PySem.W.Frag) (S : Fz) (H : Hp) (kvs : List (κ × V)) (gs : List (κ × T)) : Prop := kvs.map (·.1) = gs.map (·.1) ∧ RepL K S H (kvs.map (·.2)) (gs.map (·.2))
def RepO (K : PySem.W.Frag) (S : Fz) (H : Hp) (u : HO) : O → Prop
  | .lst ts => ∃ vs, u = .lst vs ∧ RepL K S H vs ts
  | .ins C gs => ∃ dx fs, u = .ins C dx fs ∧ RepF K S H fs gs
  | .pool => ∃ a b : Int, u = .lst [.int a, .int b] ∧ 0 ≤ a ∧ 0 ≤ b ∧ b < 2147483647
  | .dK gs => ∃ kvs, u = .dK kvs ∧ RepD K S H kvs gs
  | .dT gs => ∃ kvs, u = .dT kvs ∧ RepD K S H kvs gs
  | .dL u0 gs => u = u0 ∧ ∃ o kvs, u0 = .frz o (.dK kvs) ∧ RepD K S H kvs gs
  | .tab q => ∃ ps : Array Value, u = .tbl ps ∧ TriplesOk ps.toList ∧ ∀ (pos : Pos) (cv : Value), codeAmong pos ps.toList = some cv → ∃ c, cv = .ref c ∧ S.s c ∧ H c = some (LamX.CodeO c q)
theorem RepO.fut {K : PySem.W.Frag} {S S1 : Fz} {H H1 : Hp} {u : HO} (f : Fut S H S1 H1) : ∀ {o : O}, RepO K S H u o → RepO K S1 H1 u o
  | .lst _, ⟨vs, e, r⟩ => ⟨vs, e, r.fut f⟩
  | .ins _ _, ⟨dx, fs, e, r⟩ => ⟨dx, fs, e, r.fut f⟩
  | .pool, r => r
  | .dK _, ⟨vs, e, r⟩ => ⟨vs, e, r.1, r.2.fut f⟩
  | .dT _, ⟨vs, e, r⟩ => ⟨vs, e, r.1, r.2.fut f⟩
  | .tab _, ⟨ps, e, t, r⟩ => ⟨ps, e, t, fun pos cv hc => let ⟨c, e1, s1, h1⟩ := r pos cv hc; ⟨c, e1, f.sub c s1, (f.kp c (.inl s1)).trans h1⟩⟩
  | .dL _ _, ⟨e0, o, vs, e, r⟩ => ⟨e0, o, vs, e, r.1, r.2.fut f⟩

theorem RepO.fut' {K : PySem.W.Frag} {S S1 : Fz} {H : Hp} {u : HO} (f : ∀ a, S.s a → S1.s a) : ∀ {o : O}, RepO K S H u o → RepO K S1 H u o
  | .lst _, ⟨vs, e, r⟩ => ⟨vs, e, r.fut' f⟩
  | .ins _ _, ⟨dx, fs, e, r⟩ => ⟨dx, fs, e, r.fut' f⟩
  | .pool, r => r
  | .dK _, ⟨vs, e, r⟩ => ⟨vs, e, r.1, r.2.fut' f⟩
  | .dT _, ⟨vs, e, r⟩ => ⟨vs, e, r.1, r.2.fut' f⟩
  | .tab _, ⟨ps, e, t, r⟩ => ⟨ps, e, t, fun pos cv hc => let ⟨c, e1, s1, h1⟩ := r pos cv hc; ⟨c, e1, f c s1, h1⟩⟩
  | .dL _ _, ⟨e0, o, vs, e, r⟩ => ⟨e0, o, vs, e, r.1, r.2.fut' f⟩

structure Sim (K : PySem.W.Frag) (S : Fz) (H : Hp) (h : Hq) : Prop where
  fr : ∀ a, S.has a → h a = none
  al : ∀ a, S.has a → H a ≠ none
  dj : ∀ a, S.s a → ¬ S.p a
  ob : ∀ a o, h a = some o → ∃ u, H a = some u ∧ RepO K S H u o
section
variable {K : PySem.W.Frag} {S : Fz} {H : Hp} {h : Hq}
theorem Sim.free (m : Sim K S H h) {p : Addr} (e : H p = none) : h p = none := by
  cases q : h p with
  | none => rfl
  | some o =>
    obtain ⟨u, r, _⟩ := m.ob p o q
    rw [e] at r; cases r
theorem Sim.nS (m : Sim K S H h) {p : Addr} (e : H p = none) : ¬ S.has p := fun s => m.al p s e
theorem Sim.nS' (m : Sim K S H h) {p : Addr} {o : O} (e : h p = some o) : ¬ S.has p := fun s => by
  rw [m.fr p s] at e; cases e
theorem neS {a p : Addr} (s : S.has a) (n : ¬ S.has p) : a ≠ p := fun e => n (e ▸ s)
theorem fut_upd {p : Addr} {u : HO} (n : ¬ S.has p) : Fut S H S (upd H p u) := ⟨fun _ s => s, fun a s => upd_ne (neS s n), rfl⟩
theorem Sim.new (m : Sim K S H h) {p : Addr} {u : HO} {o : O} (e : H p = none) (r : RepO K S H u o) : Sim K S (upd H p u) (put h p o) where
  fr := fun a s => by rw [put_ne (neS s (m.nS e))]; exact m.fr a s
  al := fun a s => by rw [upd_ne (neS s (m.nS e))]; exact m.al a s
  dj := m.dj
  ob := fun a o' q => by
    have f : Fut S H S (upd H p u) := fut_upd (m.nS e)
    by_cases c : a = p
    · subst c; rw [put_same] at q; cases q; exact ⟨u, upd_same, r.fut f⟩
    · rw [put_ne c] at q
      obtain ⟨w, q1, q2⟩ := m.ob a o' q
      exact ⟨w, by rw [upd_ne c]; exact q1, q2.fut f⟩
theorem Sim.write (m : Sim K S H h) {p : Addr} {u : HO} {o o' : O} (e : h p = some o) (r : RepO K S H u o') : Sim K S (upd H p u) (put h p o') where
  fr := fun a s => by rw [put_ne (neS s (m.nS' e))]; exact m.fr a s
  al := fun a s => by rw [upd_ne (neS s (m.nS' e))]; exact m.al a s
  dj := m.dj
  ob := fun a o2 q => by
    have f : Fut S H S (upd H p u) := fut_upd (m.nS' e)
    by_cases c : a = p
    · subst c; rw [put_same] at q; cases q; exact ⟨u, upd_same, r.fut f⟩
    · rw [put_ne c] at q
      obtain ⟨w, q1, q2⟩ := m.ob a o2 q
      exact ⟨w, by rw [upd_ne c]; exact q1, q2.fut f⟩
theorem Sim.side' (m : Sim K S H h) {p : Addr} {u : HO} (e : h p = none) (n : ¬ S.has p) : Sim K S (upd H p u) h where
  fr := m.fr
  al := fun a s => by rw [upd_ne (neS s n)]; exact m.al a s
  dj := m.dj
  ob := fun a o q => by
    obtain ⟨w, q1, q2⟩ := m.ob a o q
    exact ⟨w, by rw [upd_ne fun z => by rw [z, e] at q; cases q]; exact q1, q2.fut (fut_upd n)⟩
theorem Sim.side (m : Sim K S H h) {p : Addr} {u : HO} (e : H p = none) : Sim K S (upd H p u) h := m.side' (m.free e) (m.nS e)
def plus (S : Fz) (p : Addr) : Fz := ⟨fun a => S.s a ∨ a = p, S.p⟩
def prot (S : Fz) (p : Addr) : Fz := ⟨S.s, fun a => S.p a ∨ a = p⟩
theorem fut_plus {p : Addr} {H1 : Hp} (f : Fut S H S H1) : Fut S H (plus S p) H1 := ⟨fun _ s => .inl s, f.kp, rfl⟩
theorem Sim.plus (m : Sim K S H h) {p : Addr} (e : h p = none) (n : H p ≠ none) (d : ¬ S.p p) : Sim K (plus S p) H h where
  fr := fun a s => by
    rcases s with (s | s) | s
    · exact m.fr a (.inl s)
    · rw [s]; exact e
    · exact m.fr a (.inr s)
  al := fun a s => by
    rcases s with (s | s) | s
    · exact m.al a (.inl s)
    · rw [s]; exact n
    · exact m.al a (.inr s)
  dj := fun a s => by
    rcases s with s | s
    · exact m.dj a s
    · rw [s]; exact d
  ob := fun a o q => by
    obtain ⟨w, q1, q2⟩ := m.ob a o q
    exact ⟨w, q1, q2.fut (fut_plus Fut.refl)⟩
theorem Sim.frozen (m : Sim K S H h) {p : Addr} {u : HO} (e : H p = none) : Sim K (TL.plus S p) (upd H p u) h ∧ Fut S H (TL.plus S p) (upd H p u) :=
  ⟨(m.side e).plus (m.free e) (by rw [upd_same]; exact fun z => nomatch z) (fun z => m.nS e (.inr z)), fut_plus (fut_upd (m.nS e))⟩
theorem Sim.sub (m : Sim K S H h) {h' : Hq} (e : ∀ a o, h' a = some o → h a = some o) : Sim K S H h' where
  fr := fun a s => by
    cases q : h' a with
    | none => rfl
    | some o => exact absurd (e a o q) (by rw [m.fr a s]; exact fun z => nomatch z)
  al := m.al
  dj := m.dj
  ob := fun a o q => m.ob a o (e a o q)
theorem Sim.del (m : Sim K S H h) {p : Addr} : Sim K S H (TL.del h p) := m.sub fun a o q => by
  unfold TL.del at q; split at q
  · cases q
  · exact q
theorem Sim.freeze (m : Sim K S H h) {p : Addr} {o : O} (e : h p = some o) : Sim K (TL.plus S p) H (TL.del h p) := by
  obtain ⟨u, q, _⟩ := m.ob p o e
  exact m.del.plus (by unfold TL.del; rw [if_pos rfl]) (by rw [q]; exact fun z => nomatch z) (fun z => m.nS' e (.inr z))
theorem Sim.prot (m : Sim K S H h) {p : Addr} (e : h p = none) (n : H p ≠ none) (d : ¬ S.s p) : Sim K (TL.prot S p) H h where
  fr := fun a s => by
    rcases s with s | s | s
    · exact m.fr a (.inl s)
    · exact m.fr a (.inr s)
    · rw [s]; exact e
  al := fun a s => by
    rcases s with s | s | s
    · exact m.al a (.inl s)
    · exact m.al a (.inr s)
    · rw [s]; exact n
  dj := fun a s z => by
    rcases z with z | z
    · exact m.dj a s z
    · exact d (z ▸ s)
  ob := fun a o q => by
    obtain ⟨w, q1, q2⟩ := m.ob a o q
    exact ⟨w, q1, RepO.fut' (S := S) (S1 := TL.prot S p) (fun _ s => s) q2⟩
def unp (S S1 : Fz) : Fz := ⟨S1.s, S.p⟩
theorem Sim.unp {S1 : Fz} {H1 : Hp} {h1 : Hq} (m : Sim K S1 H1 h1) {p : Addr} (e : S1.p = (TL.prot S p).p) : Sim K (TL.unp S S1) H1 h1 where
  fr := fun a s => m.fr a (s.elim .inl fun z => .inr (by rw [e]; exact .inl z))
  al := fun a s => m.al a (s.elim .inl fun z => .inr (by rw [e]; exact .inl z))
  dj := fun a s z => m.dj a s (by rw [e]; exact .inl z)
  ob := fun a o q => by
    obtain ⟨w, q1, q2⟩ := m.ob a o q
    exact ⟨w, q1, RepO.fut' (S := S1) (S1 := TL.unp S S1) (fun _ s => s) q2⟩
theorem Fut.unp {S1 : Fz} {H1 : Hp} {p : Addr} (f : Fut (TL.prot S p) H S1 H1) : Fut S H (TL.unp S S1) H1 := ⟨fun a s => f.sub a s, fun a s => f.kp a (s.elim .inl fun z => .inr (.inl z)), rfl⟩
end

abbrev Sl := List (Option T)
structure RepS (K : PySem.W.Frag) (S : Fz) (H : Hp) (σ : L2.St) (s : Sl) : Prop where
  len : σ.length = s.length
  at_ : ∀ (i : Nat) t, s[i]? = some (some t) → ∃ v, σ[i]? = some (some v) ∧ Rep K S H v t
section
variable {K : PySem.W.Frag} {S S1 : Fz} {H H1 : Hp} {σ : L2.St} {s : Sl}
theorem RepS.fut (f : Fut S H S1 H1) (r : RepS K S H σ s) : RepS K S1 H1 σ s := ⟨r.len, fun i t e => by
  obtain ⟨v, h1, h2⟩ := r.at_ i t e
  exact ⟨v, h1, h2.fut f⟩⟩
theorem RepS.fu (f : Fu S H S1 H1) (r : RepS K S H σ s) : RepS K S1 H1 σ s := ⟨r.len, fun i t e => by
  obtain ⟨v, h1, h2⟩ := r.at_ i t e
  exact ⟨v, h1, h2.fu f⟩⟩
theorem RepS.set (r : RepS K S H σ s) {v : V} {t : T} (q : Rep K S H v t) (i : Nat) : RepS K S H (σ.set i (some v)) (s.set i (some t)) := ⟨by simp [r.len], fun j u e => by
  by_cases c : i = j
  · subst c
    have hl : i < s.length := by
      have := (List.getElem?_eq_some_iff.mp e).1
      simpa using this
    rw [List.getElem?_set_self hl] at e
    cases e
    exact ⟨v, by rw [List.getElem?_set_self (by rw [r.len]; exact hl)], q⟩
  · rw [List.getElem?_set_ne c] at e
    obtain ⟨w, h1, h2⟩ := r.at_ j u e
    exact ⟨w, by rw [List.getElem?_set_ne c]; exact h1, h2⟩⟩
theorem RepS.start {N : List Str} : ∀ {vs : List V} {ts : List T}, RepL K S H vs ts → vs.length ≤ N.length → RepS K S H (L2.start N vs) (ts.map some ++ List.replicate (N.length - ts.length) none) := fun {vs ts} r hl => by
  have e := r.length
  refine ⟨by simp [L2.start, e], fun i t q => ?_⟩
  by_cases c : i < ts.length
  · rw [List.getElem?_append_left (by simpa using c), List.getElem?_map] at q
    cases z : ts[i]? with
    | none => rw [z] at q; cases q
    | some y =>
      rw [z] at q
      cases q
      obtain ⟨x, h1, h2⟩ := r.get z
      refine ⟨x, ?_, h2⟩
      unfold L2.start
      rw [List.getElem?_append_left (by simpa [e] using c), List.getElem?_map, h1]
      rfl
  · rw [List.getElem?_append_right (by simpa using c), List.getElem?_replicate] at q
    split at q
    · cases q
    · cases q
theorem RepS.fut' (f : ∀ a, S.s a → S1.s a) (r : RepS K S H σ s) : RepS K S1 H σ s := ⟨r.len, fun i t e => by
  obtain ⟨v, h1, h2⟩ := r.at_ i t e
  exact ⟨v, h1, h2.fut' f⟩⟩
end
end TL

namespace TL
open PySem L2

structure Ex where
  cls : Value
  fs : List (Str × T)
abbrev EX := Ex → Sl → Hq → Prop
abbrev TK := T → Hq → Prop
abbrev EM := Sl → Hq → TK → EX → Prop
abbrev TM := Sl → Hq → (Bool → Hq → Prop) → EX → Prop
abbrev AM := Sl → Hq → (List T → Hq → Prop) → EX → Prop
abbrev OM := Sl → Hq → (Option Int → Hq → Prop) → EX → Prop
abbrev SK := Sl → Hq → Prop
abbrev GM := T → Sl → Hq → SK → EX → Prop
abbrev GMs := List T → Sl → Hq → SK → EX → Prop
abbrev IM := Sl → Hq → (List T → (Hq → Prop) → Hq → Prop) → EX → Prop
structure En where
  nx : SK
  rt : TK
  bk : SK := fun _ _ => False
  ct : SK := fun _ _ => False
  ex : EX := fun _ _ _ => False
abbrev SM := En → Sl → Hq → Prop
abbrev Con := List T → Hq → TK → (Ex → Hq → Prop) → Prop

def RepX (K : PySem.W.Frag) (S : Fz) (H : Hp) (cls : Value) (d : Option Addr) (x : Ex) : Prop :=
  cls = x.cls ∧ ((d = none ∧ x.fs = []) ∨ ∃ dd fs, d = some dd ∧ S.s dd ∧ H dd = some (.xd fs) ∧ RepF K S H fs x.fs)

def LkX (K : PySem.W.Frag) (W : WX) (S : Fz) (H : Hp) (E : EX) : Prop := ∀ S1 H1 h1 σ1 s1 x cls d, Fut S H S1 H1 → Sim K S1 H1 h1 → RepS K S1 H1 σ1 s1 → RepX K S1 H1 cls d x → E x s1 h1 → W cls d σ1 H1
def PK (K : PySem.W.Frag) (S : Fz) (H : Hp) (Q : TK) (Q' : VK) : Prop := ∀ S1 H1 h1 v u, Fut S H S1 H1 → Sim K S1 H1 h1 → Rep K S1 H1 v u → Q u h1 → Q' v H1
def PB (K : PySem.W.Frag) (S : Fz) (H : Hp) (Q : Bool → Hq → Prop) (Q' : Bool → Hp → Prop) : Prop := ∀ S1 H1 h1 b, Fut S H S1 H1 → Sim K S1 H1 h1 → Q b h1 → Q' b H1
def PL (K : PySem.W.Frag) (S : Fz) (H : Hp) (Q : List T → Hq → Prop) (Q' : List V → Hp → Prop) : Prop := ∀ S1 H1 h1 v u, Fut S H S1 H1 → Sim K S1 H1 h1 → RepL K S1 H1 v u → Q u h1 → Q' v H1
def PSl (K : PySem.W.Frag) (S : Fz) (H : Hp) (Q : SK) (Q' : L2.St → Hp → Prop) : Prop := ∀ S1 H1 h1 σ s, Fut S H S1 H1 → Sim K S1 H1 h1 → RepS K S1 H1 σ s → Q s h1 → Q' σ H1
structure LkD (K : PySem.W.Frag) (W : WX) (S : Fz) (H : Hp) (D : En) (D' : Ends) : Prop where
  nx : PSl K S H D.nx D'.nx
  rt : PK K S H D.rt D'.rt
  bk : PSl K S H D.bk D'.bk
  ct : PSl K S H D.ct D'.ct
  ex : LkX K W S H D.ex
section
variable {K : PySem.W.Frag} {W : WX} {S S1 : Fz} {H H1 : Hp}
theorem LkX.fut {E : EX} (l : LkX K W S H E) (f : Fut S H S1 H1) : LkX K W S1 H1 E := fun S2 H2 h2 σ s x c d g => l S2 H2 h2 σ s x c d (f.trans g)
theorem PK.fut {Q : TK} {Q' : VK} (l : PK K S H Q Q') (f : Fut S H S1 H1) : PK K S1 H1 Q Q' := fun S2 H2 h2 v u g => l S2 H2 h2 v u (f.trans g)
theorem PB.fut {Q : Bool → Hq → Prop} {Q' : Bool → Hp → Prop} (l : PB K S H Q Q') (f : Fut S H S1 H1) : PB K S1 H1 Q Q' := fun S2 H2 h2 v g => l S2 H2 h2 v (f.trans g)
theorem PL.fut {Q : List T → Hq → Prop} {Q' : List V → Hp → Prop} (l : PL K S H Q Q') (f : Fut S H S1 H1) : PL K S1 H1 Q Q' := fun S2 H2 h2 v u g => l S2 H2 h2 v u (f.trans g)
theorem PSl.fut {Q : SK} {Q' : L2.St → Hp → Prop} (l : PSl K S H Q Q') (f : Fut S H S1 H1) : PSl K S1 H1 Q Q' := fun S2 H2 h2 v u g => l S2 H2 h2 v u (f.trans g)
theorem LkD.fut {D : En} {D' : Ends} (l : LkD K W S H D D') (f : Fut S H S1 H1) : LkD K W S1 H1 D D' := ⟨l.nx.fut f, l.rt.fut f, l.bk.fut f, l.ct.fut f, l.ex.fut f⟩
end

def liftE (K : PySem.W.Frag) (W : WX) (m : EM) : TE := fun σ H Q' => ∃ S h s Q E, Sim K S H h ∧ RepS K S H σ s ∧ LkX K W S H E ∧ m s h Q E ∧ PK K S H Q Q'
def liftT (K : PySem.W.Frag) (W : WX) (m : TM) : TT := fun σ H Q' => ∃ S h s Q E, Sim K S H h ∧ RepS K S H σ s ∧ LkX K W S H E ∧ m s h Q E ∧ PB K S H Q Q'
def liftA (K : PySem.W.Frag) (W : WX) (m : AM) : TA := fun σ H Q' => ∃ S h s Q E, Sim K S H h ∧ RepS K S H σ s ∧ LkX K W S H E ∧ m s h Q E ∧ PL K S H Q Q'
def liftO (K : PySem.W.Frag) (W : WX) (m : OM) : TO := fun σ H Q' => ∃ S h s Q E, Sim K S H h ∧ RepS K S H σ s ∧ LkX K W S H E ∧ m s h Q E ∧ ∀ S1 H1 h1 o, Fut S H S1 H1 → Sim K S1 H1 h1 → Q o h1 → Q' o H1
def liftS (K : PySem.W.Frag) (W : WX) (m : SM) : TS := fun D' σ H => ∃ S h s D, Sim K S H h ∧ RepS K S H σ s ∧ LkD K W S H D D' ∧ m D s h
def liftG (K : PySem.W.Frag) (W : WX) (m : GM) : TG := fun v σ H Q' => ∃ S h s t Q E, Sim K S H h ∧ RepS K S H σ s ∧ Rep K S H v t ∧ LkX K W S H E ∧ m t s h Q E ∧ PSl K S H Q Q'
def liftGs (K : PySem.W.Frag) (W : WX) (m : GMs) : TGs := fun v σ H Q' => ∃ S h s t Q E, Sim K S H h ∧ RepS K S H σ s ∧ RepL K S H v t ∧ LkX K W S H E ∧ m t s h Q E ∧ PSl K S H Q Q'
def ItRep (K : PySem.W.Frag) (S : Fz) (H : Hp) (J : It) (ts : List T) (stay : Hq → Prop) : Prop := ∀ S1 H1 h1, Fu S H S1 H1 → Sim K S1 H1 h1 → stay h1 →
  (∀ (i : Nat) t, ts[i]? = some t → J.go i H1 ∧ ∀ x H2, J.yld i H1 x H2 → ∃ S2, Fut S1 H1 S2 H2 ∧ Sim K S2 H2 h1 ∧ Rep K S2 H2 x t) ∧ J.stop ts.length H1
def liftI (K : PySem.W.Frag) (W : WX) (m : IM) : TI := fun σ H R => ∃ S h s Q E, Sim K S H h ∧ RepS K S H σ s ∧ LkX K W S H E ∧ m s h Q E ∧ ∀ S1 H1 h1 J ts stay, Fut S H S1 H1 → Sim K S1 H1 h1 → ItRep K S1 H1 J ts stay → Q ts stay h1 → R J H1

def JE (X : Cx) (W : WX) (e : Expr) (m : EM) : Prop := PE X e (liftE X.K W m)
def JT (X : Cx) (W : WX) (e : Expr) (m : TM) : Prop := PT X e (liftT X.K W m)
def JW (X : Cx) (W : WX) (e : Expr) (m : TM) : Prop := PW X e (liftT X.K W m)
def JA (X : Cx) (W : WX) (es : List Expr) (m : AM) : Prop := PA X es (liftA X.K W m)
def JO (X : Cx) (W : WX) (e : Option Expr) (m : OM) : Prop := PO X e (liftO X.K W m)
def JS (X : Cx) (W : WX) (st : Stmt) (m : SM) : Prop := PS X st (liftS X.K W m)
def JSs (X : Cx) (W : WX) (st : List Stmt) (m : SM) : Prop := PSs X st (liftS X.K W m)
def JG (X : Cx) (W : WX) (e : Expr) (m : GM) : Prop := PG X e (liftG X.K W m)
def JGs (X : Cx) (W : WX) (e : List Expr) (m : GMs) : Prop := PGs X e (liftGs X.K W m)
def JI (X : Cx) (W : WX) (tg e : Expr) (m : IM) : Prop := PI X tg e (liftI X.K W m)

section
variable {X : Cx} {W : WX}
theorem _root_.L2.PE.wk {e : Expr} {t t' : TE} (p : PE X e t) (h : ∀ σ H Q, t' σ H Q → t σ H Q) : PE X e t' := ⟨fun pins s σ H Q I w => p.run pins s σ H Q I (h σ H Q w)⟩
theorem _root_.L2.PT.wk {e : Expr} {t t' : TT} (p : PT X e t) (h : ∀ σ H Q, t' σ H Q → t σ H Q) : PT X e t' := ⟨fun pins s σ H Q I w => p.run pins s σ H Q I (h σ H Q w)⟩
theorem _root_.L2.PW.wk {e : Expr} {t t' : TT} (p : PW X e t) (h : ∀ σ H Q, t' σ H Q → t σ H Q) : PW X e t' := ⟨fun wh pins s σ H Q I w => p.run wh pins s σ H Q I (h σ H Q w)⟩
theorem _root_.L2.PA.wk {e : List Expr} {t t' : TA} (p : PA X e t) (h : ∀ σ H Q, t' σ H Q → t σ H Q) : PA X e t' := ⟨fun pos pins s σ H Q I w => p.run pos pins s σ H Q I (h σ H Q w)⟩
theorem _root_.L2.PO.wk {e : Option Expr} {t t' : TO} (p : PO X e t) (h : ∀ σ H Q, t' σ H Q → t σ H Q) : PO X e t' := ⟨fun pins s σ H Q I w => p.run pins s σ H Q I (h σ H Q w)⟩
theorem _root_.L2.PS.wk {e : Stmt} {t t' : TS} (p : PS X e t) (h : ∀ D σ H, t' D σ H → t D σ H) : PS X e t' := ⟨fun pins s σ H D I w => p.run pins s σ H D I (h D σ H w)⟩
theorem _root_.L2.PSs.wk {e : List Stmt} {t t' : TS} (p : PSs X e t) (h : ∀ D σ H, t' D σ H → t D σ H) : PSs X e t' := ⟨fun pins s σ H D I w => p.run pins s σ H D I (h D σ H w)⟩
theorem _root_.L2.PG.wk {e : Expr} {t t' : TG} (p : PG X e t) (h : ∀ v σ H Q, t' v σ H Q → t v σ H Q) : PG X e t' := ⟨fun pins s σ H v u Q I r w => p.run pins s σ H v u Q I r (h v σ H Q w)⟩
theorem _root_.L2.PGs.wk {e : List Expr} {t t' : TGs} (p : PGs X e t) (h : ∀ v σ H Q, t' v σ H Q → t v σ H Q) : PGs X e t' := ⟨fun pins s σ H v u Q I r w => p.run pins s σ H v u Q I r (h v σ H Q w)⟩
theorem _root_.L2.PI.wk {tg e : Expr} {t t' : TI} (p : PI X tg e t) (h : ∀ σ H Q, t' σ H Q → t σ H Q) : PI X tg e t' := ⟨fun pins s σ H Q I w => p.run pins s σ H Q I (h σ H Q w)⟩

def eVar (i : Nat) : EM := fun s h Q _ => match s[i]? with
  | some (some t) => Q t h
  | _ => False
def eC (t : T) : EM := fun _ h Q _ => Q t h
theorem j_var (i : Nat) {x : Str} {pos : Pos} (hN : X.N[i]? = some x := by rfl) (hv : Vis X.env.scope x := by first | exact Or.inl rfl | exact Or.inr (Or.inl rfl) | exact Or.inr (Or.inr rfl)) (hd : (x == ("__debug__" : Str)) = false := by decide)
    (hcd : (x == ("__classdict__" : Str)) = false := by decide) : JE X W (.Name x pos) (eVar i) := (pe_var hN hv hd hcd).wk fun σ H Q' ⟨S, h, s, Q, E, m, rs, lk, hm, pk⟩ => by
  unfold eVar at hm
  split at hm
  · rename_i t e
    obtain ⟨v, e1, r⟩ := rs.at_ i t e
    exact ⟨v, e1, pk S H h v t Fut.refl m r hm⟩
  · exact hm.elim
theorem j_c {e : Expr} {v : V} {t : T} (p : PE X e (tC v)) (r : ∀ S H, Rep X.K S H v t) : JE X W e (eC t) := p.wk fun σ H Q' ⟨S, h, s, Q, E, m, rs, lk, hm, pk⟩ => pk S H h v t Fut.refl m (r S H) hm
theorem j_int {i j pos} : JE X W (.Constant (.int i) j pos) (eC (.int i)) := j_c pe_int fun _ _ => .int i
theorem j_bl {b j pos} : JE X W (.Constant (.bool b) j pos) (eC (.bl b)) := j_c pe_bl fun _ _ => .bl b
theorem j_non {j pos} : JE X W (.Constant .none j pos) (eC .non) := j_c pe_non fun _ _ => .non
theorem j_str {x j pos} : JE X W (.Constant (.str x) j pos) (eC (.str x)) := j_c pe_str fun _ _ => .str x
theorem j_globR {x : Str} {a : Addr} {pos : Pos} (hg : Gl X x) (hm : X.mg x = some (.ref a)) (hd : (x == ("__debug__" : Str)) = false := by decide) : JE X W (.Name x pos) (eC (.ref a)) := j_c (v := .ref a) (pe_glob hg hm rfl hd) fun _ _ => .ref a
theorem j_ty {x : Str} {n : String} {pos : Pos} (hg : Gl X x) (hm : X.mg x = none) (hv : bootBuiltins x = some (.type n)) (hn : x ≠ "__name__" := by decide) (hd : (x == ("__debug__" : Str)) = false := by decide) : JE X W (.Name x pos) (eC (.ty n)) := j_c (v := .ty n) (pe_bltn hg hm hv rfl hn hd) fun _ _ => .ty n

abbrev R2T := T → T → Hq → TK → Prop
def OP (K : PySem.W.Frag) (r : R2) (o : R2T) : Prop := ∀ S H h v w x y Q Q', Sim K S H h → Rep K S H v x → Rep K S H w y → o x y h Q → PK K S H Q Q' → r v w H Q'
def eOp (o : R2T) (a b : EM) : EM := fun s h Q E => a s h (fun x h1 => b s h1 (fun y h2 => o x y h2 Q) E) E
theorem lift_op {K : PySem.W.Frag} {r : R2} {o : R2T} {a b : EM} (op : OP K r o) : ∀ σ H Q, liftE K W (eOp o a b) σ H Q → tOp r (liftE K W a) (liftE K W b) σ H Q := fun σ H Q' ⟨S, h, s, Q, E, m, rs, lk, hm, pk⟩ =>
  ⟨S, h, s, _, E, m, rs, lk, hm, fun S1 H1 h1 v x f1 m1 r1 q1 => ⟨S1, h1, s, _, E, m1, rs.fut f1, lk.fut f1, q1, fun S2 H2 h2 w y f2 m2 r2 q2 => op S2 H2 h2 v w x y Q Q' m2 (r1.fut f2) r2 q2 (pk.fut (f1.trans f2))⟩⟩
theorem j_op {a b : Expr} {ma mb : EM} {op : Operator} {r : R2} {o : R2T} {pos : Pos} (ho : OpR X (binaryOp op) r) (p : OP X.K r o) (ha : JE X W a ma) (hb : JE X W b mb) : JE X W (.BinOp a op b pos) (eOp o ma mb) := PE.wk (pe_op ho ha hb) (lift_op p)
theorem j_cmp {a b : Expr} {ma mb : EM} {op : CmpOp} {r : R2} {o : R2T} {pos : Pos} (ho : OpR X (compareOp op) r) (p : OP X.K r o) (ha : JE X W a ma) (hb : JE X W b mb) (hm : behindInMarks op b = false) : JE X W (.Compare a [op] [b] pos) (eOp o ma mb) := PE.wk (pe_cmpR ho ha hb hm) (lift_op p)
def tOf (m : EM) : TM := fun s h Q E => m s h (fun x h1 => match x with
  | .bl b => Q b h1
  | _ => False) E
theorem lift_test {K : PySem.W.Frag} {m : EM} : ∀ σ H Q, liftT K W (tOf m) σ H Q → tTest (liftE K W m) σ H Q := fun σ H Q' ⟨S, h, s, Q, E, m, rs, lk, hm, pk⟩ =>
  ⟨S, h, s, _, E, m, rs, lk, hm, fun S1 H1 h1 v x f1 m1 r1 q1 => by
    split at q1
    · cases r1; exact ⟨_, rfl, pk S1 H1 h1 _ f1 m1 q1⟩
    · exact q1.elim⟩
theorem tTest_mono {t t' : TE} (h : ∀ σ H Q, t' σ H Q → t σ H Q) : ∀ σ H Q, tTest t' σ H Q → tTest t σ H Q := fun σ H _ q => h σ H _ q
theorem jt_cmp {a b : Expr} {ma mb : EM} {op : CmpOp} {r : R2} {o : R2T} {pos : Pos} (ho : OpR X (compareOp op) r) (p : OP X.K r o) (ha : JE X W a ma) (hb : JE X W b mb) (hm : behindInMarks op b = false) : JT X W (.Compare a [op] [b] pos) (tOf (eOp o ma mb)) :=
  PT.wk (pt_cmpR ho ha hb hm) fun σ H Q q => tTest_mono (lift_op p) σ H Q (lift_test σ H Q q)
def eChain (o o' : R2T) (a b c : EM) : EM := fun s h Q E => a s h (fun x h1 => b s h1 (fun y h2 => o x y h2 fun z h3 => match z with
  | .bl true => c s h3 (fun w h4 => o' y w h4 Q) E
  | .bl false => Q (.bl false) h3
  | _ => False) E) E
def tAndM (a b : TM) : TM := fun s h Q E => a s h (fun c h1 => if c = true then b s h1 Q E else Q false h1) E
def tOrM (a b : TM) : TM := fun s h Q E => a s h (fun c h1 => if c = true then Q true h1 else b s h1 Q E) E
def tNotM (a : TM) : TM := fun s h Q E => a s h (fun c h1 => Q (!c) h1) E
theorem jw_or1 {a : Expr} {m : TM} {pos : Pos} (h : JT X W a m) : JW X W (.BoolOp .Or [a] pos) m := pw_or1 h
theorem jw_or {a b : Expr} {rest : List Expr} {ma mb : TM} {pos : Pos} (ha : JT X W a ma) (hb : JW X W (.BoolOp .Or (b :: rest) pos) mb) : JW X W (.BoolOp .Or (a :: b :: rest) pos) (tOrM ma mb) := PW.wk (pw_or ha hb) fun σ H Q' ⟨S, h, s, Q, E, m, rs, lk, hm, pk⟩ =>
  ⟨S, h, s, _, E, m, rs, lk, hm, fun S1 H1 h1 c f1 m1 q1 => by
    cases c with
    | false => rw [if_neg Bool.false_ne_true] at q1 ⊢; exact ⟨S1, h1, s, Q, E, m1, rs.fut f1, lk.fut f1, q1, pk.fut f1⟩
    | true => rw [if_pos rfl] at q1 ⊢; exact pk S1 H1 h1 _ f1 m1 q1⟩
theorem jt_w {e : Expr} {m : TM} (h : JW X W e m) : JT X W e m := PW.pt h
theorem jt_not {a : Expr} {m : TM} {pos : Pos} (h : JT X W a m) : JT X W (.UnaryOp .Not a pos) (tNotM m) := PT.wk (pt_not h) fun σ H Q' ⟨S, h, s, Q, E, m, rs, lk, hm, pk⟩ =>
  ⟨S, h, s, _, E, m, rs, lk, hm, fun S1 H1 h1 c f1 m1 q1 => pk S1 H1 h1 _ f1 m1 q1⟩
def eAndV (a b : EM) : EM := fun s h Q E => a s h (fun x h1 => match x with
  | .bl true => b s h1 Q E
  | .bl false => Q (.bl false) h1
  | _ => False) E
def eOrV (a b : EM) : EM := fun s h Q E => a s h (fun x h1 => match x with
  | .bl true => Q (.bl true) h1
  | .bl false => b s h1 Q E
  | _ => False) E
def eNotV (a : EM) : EM := fun s h Q E => a s h (fun x h1 => match x with
  | .bl c => Q (.bl (!c)) h1
  | _ => False) E
def eIf (c : TM) (a b : EM) : EM := fun s h Q E => c s h (fun d h1 => if d = true then a s h1 Q E else b s h1 Q E) E
def aNil : AM := fun _ h Q _ => Q [] h
def aCons (a : EM) (r : AM) : AM := fun s h Q E => a s h (fun x h1 => r s h1 (fun xs h2 => Q (x :: xs) h2) E) E
theorem ja_nil : JA X W [] aNil := PA.wk pa_nil fun σ H Q' ⟨S, h, s, Q, E, m, rs, lk, hm, pk⟩ => pk S H h _ _ Fut.refl m .nil hm
end
end TL

namespace TL
open PySem L2
section
variable {X : Cx} {W : WX} {K : PySem.W.Frag} {S : Fz} {H : Hp} {h : Hq}
theorem ja_cons {e : Expr} {es : List Expr} {m : EM} {r : AM} (he : JE X W e m) (hr : JA X W es r) (hs : starEach (e :: es) X.env = (false, eval e X.env) :: starEach es X.env := by rfl) : JA X W (e :: es) (aCons m r) := PA.wk (pa_cons he hr hs) fun σ H Q' ⟨S, h, s, Q, E, m, rs, lk, hm, pk⟩ =>
  ⟨S, h, s, _, E, m, rs, lk, hm, fun S1 H1 h1 v x f1 m1 r1 q1 => ⟨S1, h1, s, _, E, m1, rs.fut f1, lk.fut f1, q1, fun S2 H2 h2 vs xs f2 m2 r2 q2 => pk S2 H2 h2 _ _ (f1.trans f2) m2 (.cons (r1.fut f2) r2) q2⟩⟩

def lsOf (h : Hq) : T → Option (List T)
  | .lst ts => some ts
  | .ref a => match h a with
    | some (.lst ts) => some ts
    | _ => none
  | _ => none
theorem lsOf_ok (m : Sim K S H h) {v : V} {x : T} {ts : List T} (r : Rep K S H v x) (e : lsOf h x = some ts) : ∃ a vs, v = .ref a ∧ H a = some (.lst vs) ∧ RepL K S H vs ts := by
  cases r with
  | lst s hh q => cases e; exact ⟨_, _, rfl, hh, q⟩
  | ref a =>
    simp only [lsOf] at e
    cases z : h a with
    | none => rw [z] at e; cases e
    | some o =>
      rw [z] at e
      cases o with
      | lst ts' =>
        cases e
        obtain ⟨u, e1, vs, e2, r2⟩ := m.ob a _ z
        subst e2
        exact ⟨a, vs, rfl, e1, r2⟩
      | ins C fs => cases e
      | pool => cases e
      | dK _ => cases e
      | dT _ => cases e
      | tab _ => cases e
      | dL _ _ => cases e
  | non => cases e
  | bl b => cases e
  | int i => cases e
  | str x => cases e
  | tup _ _ _ => cases e
  | tupK _ _ => cases e
  | ins _ _ _ => cases e
  | ty n => cases e
  | scr _ _ => cases e
  | scrK _ => cases e
  | exc _ _ _ => cases e
  | exc0 => cases e
  | xob _ _ _ _ _ _ => cases e
def mk (fl : Bool) (ts : List T) (h : Hq) (Q : TK) : Prop := if fl = true then Q (.lst ts) h else ∀ p, h p = none → Q (.ref p) (put h p (.lst ts))
@[simp] theorem mk_true {ts : List T} {h : Hq} {Q : TK} : mk true ts h Q = Q (.lst ts) h := by unfold mk; rw [if_pos rfl]
@[simp] theorem mk_false {ts : List T} {h : Hq} {Q : TK} : mk false ts h Q = ∀ p, h p = none → Q (.ref p) (put h p (.lst ts)) := by unfold mk; rw [if_neg Bool.false_ne_true]
theorem mk_ok (m : Sim K S H h) {fl : Bool} {vs : List V} {ts : List T} {Q : TK} {Q' : VK} (r : RepL K S H vs ts) (q : mk fl ts h Q) (pk : PK K S H Q Q') : ∀ p, H p = none → Q' (.ref p) (upd H p (.lst vs)) := fun p hp => by
  cases fl with
  | true =>
    rw [mk_true] at q
    obtain ⟨m1, f1⟩ := m.frozen (u := .lst vs) hp
    exact pk _ _ h _ _ f1 m1 (.lst (.inr rfl) upd_same (r.fut f1)) q
  | false =>
    rw [mk_false] at q
    exact pk S _ _ _ _ (fut_upd (m.nS hp)) (m.new (o := .lst ts) hp ⟨vs, rfl, r⟩) (.ref p) (q p (m.free hp))
theorem tup_ok (m : Sim K S H h) {vs : List V} {ts : List T} {Q : TK} {Q' : VK} (r : RepL K S H vs ts) (q : Q (.tup ts) h) (pk : PK K S H Q Q') : ∀ p, H p = none → Q' (.ref p) (upd H p (.tup vs)) := fun p hp => by
  obtain ⟨m1, f1⟩ := m.frozen (u := .tup vs) hp
  exact pk _ _ h _ _ f1 m1 (.tup (.inr rfl) upd_same (r.fut f1)) q
abbrev lim : Nat := 1000000
theorem lim_le {n : Nat} (h : n ≤ lim) : n ≤ sizeLine := Nat.le_trans h (by decide)
theorem lim_lt {n : Nat} (h : n ≤ lim) : n < sizeLine := Nat.lt_of_le_of_lt h (by decide)
def eTup (a : AM) : EM := fun s h Q E => a s h (fun ts h1 => ts.length ≤ lim ∧ Q (.tup ts) h1) E
def eLst (fl : Bool) (a : AM) : EM := fun s h Q E => a s h (fun ts h1 => ts.length ≤ lim ∧ mk fl ts h1 Q) E
theorem j_tup {es : List Expr} {a : AM} {x1} {pos : Pos} (ha : JA X W es a) : JE X W (.Tuple es x1 pos) (eTup a) := PE.wk (pe_tup ha) fun σ H Q' ⟨S, h, s, Q, E, m, rs, lk, hm, pk⟩ =>
  ⟨S, h, s, _, E, m, rs, lk, hm, fun S1 H1 h1 vs ts f1 m1 r1 ⟨l, q1⟩ => ⟨lim_le (by rw [r1.length]; exact l), tup_ok m1 r1 q1 (pk.fut f1)⟩⟩
theorem j_lst (fl : Bool) {es : List Expr} {a : AM} {pos : Pos} (ha : JA X W es a) : JE X W (.List es pos) (eLst fl a) := PE.wk (pe_lst ha) fun σ H Q' ⟨S, h, s, Q, E, m, rs, lk, hm, pk⟩ =>
  ⟨S, h, s, _, E, m, rs, lk, hm, fun S1 H1 h1 vs ts f1 m1 r1 ⟨l, q1⟩ => ⟨lim_le (by rw [r1.length]; exact l), mk_ok m1 r1 q1 (pk.fut f1)⟩⟩
def frzK (Q : TK) : TK := fun x h1 => match x with
  | .ref p => match h1 p with
    | some (.lst ts) => Q (.lst ts) (del h1 p)
    | some (.ins C gs) => Q (.ins C gs) (del h1 p)
    | _ => Q (.ref p) h1
  | x => Q x h1
def eFrz (a : EM) : EM := fun s h Q E => a s h (frzK Q) E
theorem frz_ok (m : Sim K S H h) {v : V} {x : T} {Q : TK} {Q' : VK} (r : Rep K S H v x) (pk : PK K S H Q Q') (q : frzK Q x h) : Q' v H := by
  unfold frzK at q
  cases r with
  | ref p =>
    dsimp only at q
    split at q
    · rename_i ts e
      obtain ⟨u, e1, vs, e2, r2⟩ := m.ob p _ e
      subst e2
      have f : Fut S H (plus S p) H := fut_plus Fut.refl
      exact pk _ H _ _ _ f (m.freeze e) (.lst (.inr rfl) e1 (r2.fut f)) q
    · rename_i C gs e
      obtain ⟨u, e1, dx, fs, e2, r2⟩ := m.ob p _ e
      subst e2
      have f : Fut S H (plus S p) H := fut_plus Fut.refl
      exact pk _ H _ _ _ f (m.freeze e) (.ins (.inr rfl) e1 (r2.fut f)) q
    · exact pk S H h _ _ Fut.refl m (.ref p) q
  | non => exact pk S H h _ _ Fut.refl m .non q
  | bl b => exact pk S H h _ _ Fut.refl m (.bl b) q
  | int i => exact pk S H h _ _ Fut.refl m (.int i) q
  | str x => exact pk S H h _ _ Fut.refl m (.str x) q
  | tup a b c => exact pk S H h _ _ Fut.refl m (.tup a b c) q
  | tupK a b => exact pk S H h _ _ Fut.refl m (.tupK a b) q
  | lst a b c => exact pk S H h _ _ Fut.refl m (.lst a b c) q
  | ins a b c => exact pk S H h _ _ Fut.refl m (.ins a b c) q
  | ty n => exact pk S H h _ _ Fut.refl m (.ty n) q
  | scr a b => exact pk S H h _ _ Fut.refl m (.scr a b) q
  | scrK b => exact pk S H h _ _ Fut.refl m (.scrK b) q
  | exc a b c => exact pk S H h _ _ Fut.refl m (.exc a b c) q
  | exc0 => exact pk S H h _ _ Fut.refl m .exc0 q
  | xob a b c d e f => exact pk S H h _ _ Fut.refl m (.xob a b c d e f) q
theorem j_frz {e : Expr} {a : EM} (he : JE X W e a) : JE X W e (eFrz a) := PE.wk he fun σ H Q' ⟨S, h, s, Q, E, m, rs, lk, hm, pk⟩ =>
  ⟨S, h, s, _, E, m, rs, lk, hm, fun S1 H1 h1 v x f1 m1 r1 q1 => frz_ok m1 r1 (pk.fut f1) q1⟩

def MulOk (i j : Int) : Prop := i.natAbs < 2 ^ 64 ∨ j.natAbs < 2 ^ 64 ∨ (i.natAbs < 2 ^ 250 ∧ j.natAbs < 2 ^ 250)
def oI (g : Int → Int → T) : R2T := fun x y h Q => match x, y with
  | .int i, .int j => Q (g i j) h
  | _, _ => False
theorem op_I {g : Int → Int → V} {g' : Int → Int → T} (e : ∀ S H i j, Rep K S H (g i j) (g' i j)) : OP K (rI0 g) (oI g') := fun S H h v w x y Q Q' m r1 r2 q pk => by
  cases r1 <;> cases r2 <;> first | exact q.elim | skip
  exact ⟨_, _, rfl, rfl, pk S H h _ _ Fut.refl m (e S H _ _) q⟩
def oIC (C : Int → Int → Prop) (g : Int → Int → T) : R2T := fun x y h Q => match x, y with
  | .int i, .int j => C i j ∧ Q (g i j) h
  | _, _ => False
theorem op_IC {C C' : Int → Int → Prop} {g : Int → Int → V} {g' : Int → Int → T} (c : ∀ i j, C' i j → C i j) (e : ∀ S H i j, Rep K S H (g i j) (g' i j)) : OP K (rI C g) (oIC C' g') := fun S H h v w x y Q Q' m r1 r2 q pk => by
  cases r1 <;> cases r2 <;> first | exact q.elim | skip
  exact ⟨_, _, rfl, rfl, c _ _ q.1, pk S H h _ _ Fut.refl m (e S H _ _) q.2⟩
theorem OP.or {r r' : R2} {o o' u : R2T} (a : OP K r o) (b : OP K r' o') (c : ∀ x y h Q, u x y h Q → o x y h Q ∨ o' x y h Q) : OP K (fun x y H Q => r x y H Q ∨ r' x y H Q) u := fun S H h v w x y Q Q' m r1 r2 q pk => by
  rcases c x y h Q q with q | q
  · exact .inl (a S H h v w x y Q Q' m r1 r2 q pk)
  · exact .inr (b S H h v w x y Q Q' m r1 r2 q pk)

def oSub : R2T := oI fun i j => .int (i - j)
def oMod : R2T := oIC (fun _ j => 0 < j) fun i j => .int (i % j)
def oDiv : R2T := oIC (fun _ j => 0 < j ∧ j < 2 ^ 250) fun i j => .int (i / j)
def oPow : R2T := oIC (fun i j => 0 ≤ j ∧ j ≤ 1000 ∧ i.natAbs < 2 ^ 64) fun i j => .int (i ^ j.toNat)
def oLt : R2T := oI fun i j => .bl (decide (i < j))
def oLe : R2T := oI fun i j => .bl (decide (i ≤ j))
def oGt : R2T := oI fun i j => .bl (decide (j < i))
def oGe : R2T := oI fun i j => .bl (decide (j ≤ i))
theorem p_mod : OP K (rI (fun _ j => 0 < j) fun i j => .int (i % j)) oMod := op_IC (fun _ _ c => c) fun _ _ _ _ => .int _
theorem p_div : OP K (rI CDivW fun i j => .int (i / j)) oDiv := op_IC (fun i j c => wide_div (b := 250) c.1 (by have := c.1; have := c.2; omega) (by decide) (by decide)) fun _ _ _ _ => .int _
theorem p_pow : OP K (rI CPow fun i j => .int (i ^ j.toNat)) oPow := op_IC (fun i j c => ⟨c.1, by have := c.2.1; omega, c.2.2⟩) fun _ _ _ _ => .int _
theorem p_gt : OP K (rI0 fun i j => .bl (decide (j < i))) oGt := op_I fun _ _ _ _ => .bl _
theorem p_ge : OP K (rI0 fun i j => .bl (decide (j ≤ i))) oGe := op_I fun _ _ _ _ => .bl _
def oAdd (fl : Bool) : R2T := fun x y h Q => match x, y with
  | .int i, .int j => Q (.int (i + j)) h
  | .str a, .str b => a.length + b.length ≤ lim ∧ Q (.str (a ++ b)) h
  | x, y => match lsOf h x, lsOf h y with
    | some xs, some ys => xs.length + ys.length ≤ lim ∧ mk fl (xs ++ ys) h Q
    | _, _ => False
def rAdd : R2 := fun x y H Q => (∃ i j, x = .int i ∧ y = .int j ∧ Q (.int (i + j)) H) ∨ (∃ i j, x = .str i ∧ y = .str j ∧ i.length + j.length ≤ sizeLine ∧ Q (.str (i ++ j)) H) ∨ rCat x y H Q
theorem o_add : OpR X (binaryOp .Add) rAdd := OpR.or op_add (OpR.or op_add_str op_cat)
theorem p_add (fl : Bool) : OP K rAdd (oAdd fl) := fun S H h v w x y Q Q' m r1 r2 q pk => by
  unfold oAdd at q
  split at q
  · cases r1; cases r2; exact .inl ⟨_, _, rfl, rfl, pk S H h _ _ Fut.refl m (.int _) q⟩
  · cases r1; cases r2; exact .inr (.inl ⟨_, _, rfl, rfl, lim_le q.1, pk S H h _ _ Fut.refl m (.str _) q.2⟩)
  · split at q
    · rename_i xs ys e1 e2
      obtain ⟨a, vs, rfl, ha, ra⟩ := lsOf_ok m r1 e1
      obtain ⟨b, ws, rfl, hb, rb⟩ := lsOf_ok m r2 e2
      exact .inr (.inr ⟨a, b, vs, ws, rfl, rfl, ha, hb, lim_le (by rw [ra.length, rb.length]; exact q.1), mk_ok m (ra.append rb) q.2 pk⟩)
    · exact q.elim
def oMul (fl : Bool) : R2T := fun x y h Q => match x, y with
  | .int i, .int j => MulOk i j ∧ Q (.int (i * j)) h
  | x, .int k => match lsOf h x with
    | some xs => 0 ≤ k ∧ k ≤ 1000000 ∧ xs.length * k.toNat ≤ lim ∧ mk fl (List.replicate k.toNat xs).flatten h Q
    | none => False
  | _, _ => False
def rMulA : R2 := fun x y H Q => rI CMul (fun i j => .int (i * j)) x y H Q ∨ rI CMulW (fun i j => .int (i * j)) x y H Q ∨ rRep x y H Q
theorem o_mul : OpR X (binaryOp .Mult) rMulA := OpR.or op_mul (OpR.or op_mulW op_rep)
theorem p_mul (fl : Bool) : OP K rMulA (oMul fl) := fun S H h v w x y Q Q' m r1 r2 q pk => by
  unfold oMul at q
  split at q
  · cases r1; cases r2
    rename_i i j
    have fin := pk S H h _ _ Fut.refl m (.int (i * j)) q.2
    rcases q.1 with c | c | ⟨c, d⟩
    · exact .inl ⟨_, _, rfl, rfl, .inl (by omega), fin⟩
    · exact .inl ⟨_, _, rfl, rfl, .inr (by omega), fin⟩
    · exact .inr (.inl ⟨_, _, rfl, rfl, wide_mul (a := 250) (b := 250) c d (by decide) (by decide) (by decide), fin⟩)
  · split at q
    · rename_i xs e1
      obtain ⟨a, vs, rfl, ha, ra⟩ := lsOf_ok m r1 e1
      obtain ⟨k0, k1, k2, q⟩ := q
      cases r2
      exact .inr (.inr ⟨a, _, vs, rfl, rfl, ha, by omega, by omega, lim_le (by rw [ra.length]; exact k2), mk_ok m (ra.replicate _) q pk⟩)
    · exact q.elim
  · exact q.elim
def eNeg (a : EM) : EM := fun s h Q E => a s h (fun x h1 => match x with
  | .int i => Q (.int (-i)) h1
  | _ => False) E
def oIsN : R2T := fun x y h Q => match y with
  | .non => match x with
    | .non => Q (.bl true) h
    | _ => Q (.bl false) h
  | _ => False
def oNotN : R2T := fun x y h Q => match y with
  | .non => match x with
    | .non => Q (.bl false) h
    | _ => Q (.bl true) h
  | _ => False
mutual
def toD : T → Option PyData
  | .non => some .none
  | .bl b => some (.bool b)
  | .int i => some (.int i)
  | .str x => if PyData.strOk x = true then some (.str x) else none
  | .tup ts => (toDs ts).map .tuple
  | .lst ts => (toDs ts).map .list
  | _ => none
def toDs : List T → Option (List PyData)
  | [] => some []
  | t :: ts => match toD t, toDs ts with
    | some d, some ds => some (d :: ds)
    | _, _ => none
end
mutual
theorem toD_ok : ∀ {t : T} {v : V} {d : PyData}, Rep K S H v t → toD t = some d → Dp K H v d ∧ d.canLay0 = true
  | _, _, d, .non, e => by cases e; exact ⟨.non, rfl⟩
  | _, _, d, .bl b, e => by cases e; exact ⟨.bl b, rfl⟩
  | _, _, d, .int i, e => by cases e; exact ⟨.int i, rfl⟩
  | _, _, d, .str x, e => by
    unfold toD at e
    split at e
    · rename_i hs; cases e; exact ⟨.str x, by unfold PyData.canLay0; exact hs⟩
    · cases e
  | .tup ts, _, d, .tup s hh r, e => by
    unfold toD at e
    cases z : toDs ts with
    | none => rw [z] at e; cases e
    | some ds => rw [z] at e; cases e; exact ⟨.tup (SqT.of hh) (toDs_ok r z).1, by unfold PyData.canLay0; exact (toDs_ok r z).2⟩
  | .tup ts, _, d, .tupK hh r, e => by
    unfold toD at e
    cases z : toDs ts with
    | none => rw [z] at e; cases e
    | some ds => rw [z] at e; cases e; exact ⟨.tup (.inr hh) (toDs_ok r z).1, by unfold PyData.canLay0; exact (toDs_ok r z).2⟩
  | .lst ts, _, d, .lst s hh r, e => by
    unfold toD at e
    cases z : toDs ts with
    | none => rw [z] at e; cases e
    | some ds => rw [z] at e; cases e; exact ⟨.lst (SqL.of hh) (toDs_ok r z).1, by unfold PyData.canLay0; exact (toDs_ok r z).2⟩
  | _, _, d, .ins _ _ _, e => by cases e
  | _, _, d, .ref _, e => by cases e
  | _, _, d, .ty _, e => by cases e
  | _, _, d, .scr _ _, e => by cases e
  | _, _, d, .scrK _, e => by cases e
theorem toDs_ok : ∀ {ts : List T} {vs : List V} {ds : List PyData}, RepL K S H vs ts → toDs ts = some ds → DpAll K H vs ds ∧ PyData.canLayAll0 ds = true
  | _, _, ds, .nil, e => by cases e; exact ⟨.nil, rfl⟩
  | t :: ts, _, ds, .cons r q, e => by
    unfold toDs at e
    split at e
    · rename_i d ds' e1 e2
      cases e
      obtain ⟨a1, a2⟩ := toD_ok r e1
      obtain ⟨b1, b2⟩ := toDs_ok q e2
      exact ⟨.cons a1 b1, by unfold PyData.canLayAll0; rw [a2, b2]; rfl⟩
    · cases e
end
def view (h : Hq) : T → T
  | .ref a => match h a with
    | some (.lst ts) => .lst ts
    | _ => .ref a
  | x => x
def eqT (x y : T) : Bool := match toD x, toD y with
  | some d, some e => PyData.eqv d e
  | _, _ => false
def depth? (x : T) : Bool := match toD x with
  | some d => decide (d.depth ≤ 64)
  | none => false
theorem view_ok (m : Sim K S H h) {v : V} {x : T} {d : PyData} (r : Rep K S H v x) (e : toD (view h x) = some d) : Dp K H v d ∧ d.canLay0 = true := by
  cases r with
  | ref a =>
    simp only [view] at e
    cases z : h a with
    | none => rw [z] at e; cases e
    | some o =>
      rw [z] at e
      cases o with
      | lst ts =>
        obtain ⟨u, e1, vs, e2, r2⟩ := m.ob a _ z
        subst e2
        have f : Fut S H (plus S a) H := fut_plus Fut.refl
        exact toD_ok (S := plus S a) (.lst (.inr rfl) e1 (r2.fut f)) e
      | ins C fs => cases e
      | pool => cases e
      | dK _ => cases e
      | dT _ => cases e
      | tab _ => cases e
      | dL _ _ => cases e
  | non => exact toD_ok (S := S) .non e
  | bl b => exact toD_ok (S := S) (.bl b) e
  | int i => exact toD_ok (S := S) (.int i) e
  | str x => exact toD_ok (S := S) (.str x) e
  | tup a b c => exact toD_ok (.tup a b c) e
  | tupK a b => exact toD_ok (.tupK a b) e
  | lst a b c => exact toD_ok (.lst a b c) e
  | ins a b c => exact toD_ok (.ins a b c) e
  | ty n => exact toD_ok (S := S) (.ty n) e
  | scr a b => exact toD_ok (.scr a b) e
  | scrK b => exact toD_ok (S := S) (.scrK b) e
  | exc a b c => exact toD_ok (.exc a b c) e
  | exc0 => exact toD_ok (S := S) .exc0 e
  | xob a b c d f g => exact toD_ok (.xob a b c d f g) e
def oEq : R2T := fun x y h Q => depth? (view h x) = true ∧ depth? (view h y) = true ∧ Q (.bl (eqT (view h x) (view h y))) h
def oNe : R2T := fun x y h Q => depth? (view h x) = true ∧ depth? (view h y) = true ∧ Q (.bl (!eqT (view h x) (view h y))) h
theorem depth?_ok {x : T} (e : depth? x = true) : ∃ d, toD x = some d ∧ d.depth ≤ 64 := by
  unfold depth? at e
  split at e
  · exact ⟨_, by assumption, of_decide_eq_true e⟩
  · cases e
theorem p_eq : OP K (rEqD K) oEq := fun S H h v w x y Q Q' m r1 r2 q pk => by
  obtain ⟨q1, q2, q⟩ := q
  obtain ⟨d, e1, n1⟩ := depth?_ok q1
  obtain ⟨e, e2, n2⟩ := depth?_ok q2
  obtain ⟨a1, a2⟩ := view_ok m r1 e1
  obtain ⟨b1, b2⟩ := view_ok m r2 e2
  unfold eqT at q
  rw [e1, e2] at q
  exact ⟨d, e, a1, b1, by unfold SeqAt.shaped; rw [a2]; simpa using n1, by unfold SeqAt.shaped; rw [b2]; simpa using n2, pk S H h _ _ Fut.refl m (.bl _) q⟩
theorem p_ne : OP K (rNeD K) oNe := fun S H h v w x y Q Q' m r1 r2 q pk => by
  obtain ⟨q1, q2, q⟩ := q
  obtain ⟨d, e1, n1⟩ := depth?_ok q1
  obtain ⟨e, e2, n2⟩ := depth?_ok q2
  obtain ⟨a1, a2⟩ := view_ok m r1 e1
  obtain ⟨b1, b2⟩ := view_ok m r2 e2
  unfold eqT at q
  rw [e1, e2] at q
  exact ⟨d, e, a1, b1, by unfold SeqAt.shaped; rw [a2]; simpa using n1, by unfold SeqAt.shaped; rw [b2]; simpa using n2, pk S H h _ _ Fut.refl m (.bl _) q⟩
end
end TL

namespace TL
open PySem L2
section
variable {X : Cx} {W : WX} {K : PySem.W.Frag} {S : Fz} {H : Hp} {h : Hq}
theorem atI_rep {vs : List V} {ts : List T} {i : Int} {t : T} (r : RepL K S H vs ts) (e : atI ts i = some t) : ∃ v, atI vs i = some v ∧ Rep K S H v t := by
  unfold atI at *
  rw [r.length]
  cases z : ixN ts.length i with
  | none => rw [z] at e; cases e
  | some j => rw [z] at e; exact r.get e
def atK (ts : List T) (i : Int) (h : Hq) (Q : TK) : Prop := match atI ts i with
  | some t => Q t h
  | none => False
def oIx : R2T := fun x y h Q => match y with
  | .int i => match x with
    | .tup ts => atK ts i h Q
    | .scr ns => atK (ns.map T.int) i h Q
    | .str z => z.length ≤ lim ∧ match atI z.cps.toList i with
      | some c => Q (.str ⟨#[c]⟩) h
      | none => False
    | x => match lsOf h x with
      | some ts => atK ts i h Q
      | none => False
  | _ => False
theorem atK_ok (m : Sim K S H h) {vs : List V} {ts : List T} {i : Int} {Q : TK} {Q' : VK} (r : RepL K S H vs ts) (q : atK ts i h Q) (pk : PK K S H Q Q') : ∃ v, atI vs i = some v ∧ Q' v H := by
  unfold atK at q
  split at q
  · rename_i t e
    obtain ⟨v, e1, r1⟩ := atI_rep r e
    exact ⟨v, e1, pk S H h _ _ Fut.refl m r1 q⟩
  · exact q.elim
theorem p_ix : OP K (rIx K) oIx := fun S H h v w x y Q Q' m r1 r2 q pk => by
  unfold oIx at q
  split at q
  · rename_i i
    cases r2
    split at q
    · rename_i ts
      cases r1 with
      | tup s hh r => obtain ⟨u, e, q'⟩ := atK_ok m r q pk; exact .inr (.inl ⟨_, _, i, u, rfl, rfl, SqT.of hh, e, q'⟩)
      | tupK hh r => obtain ⟨u, e, q'⟩ := atK_ok m r q pk; exact .inr (.inl ⟨_, _, i, u, rfl, rfl, .inr hh, e, q'⟩)
    · obtain ⟨a, rfl, hh, _⟩ := r1.scr_sq
      obtain ⟨u, e, q'⟩ := atK_ok m (RepL.of_ints _) q pk
      exact .inl ⟨_, _, i, u, rfl, rfl, hh, e, q'⟩
    · cases r1
      obtain ⟨l, q⟩ := q
      split at q
      · rename_i c e
        exact .inr (.inr ⟨_, i, c, rfl, rfl, lim_le l, e, pk S H h _ _ Fut.refl m (.str _) q⟩)
      · exact q.elim
    · split at q
      · rename_i ts e
        obtain ⟨a, vs, rfl, ha, r⟩ := lsOf_ok m r1 e
        obtain ⟨u, e, q'⟩ := atK_ok m r q pk
        exact .inl ⟨a, vs, i, u, rfl, rfl, SqL.of ha, e, q'⟩
      · exact q.elim
  · exact q.elim
theorem j_ix {a b : Expr} {ma mb : EM} {pos : Pos} (ha : JE X W a ma) (hb : JE X W b mb) (hs : PlainIx b := by intro _ _; rfl) : JE X W (.Subscript a b pos) (eOp oIx ma mb) := PE.wk (pe_ix ix_seq ha hb hs) (lift_op p_ix)
def mNo : OM := fun _ h Q _ => Q none h
def mPart (a : EM) : OM := fun s h Q E => a s h (fun x h1 => match x with
  | .int i => Q (some i) h1
  | _ => False) E
theorem jo_some {e : Expr} {m : EM} (he : JE X W e m) : JO X W (some e) (mPart m) := PO.wk (po_some he) fun σ H Q' ⟨S, h, s, Q, E, m, rs, lk, hm, pk⟩ =>
  ⟨S, h, s, _, E, m, rs, lk, hm, fun S1 H1 h1 v x f1 m1 r1 q1 => by
    split at q1
    · cases r1; exact ⟨_, rfl, pk S1 H1 h1 _ f1 m1 q1⟩
    · exact q1.elim⟩
def cutT (ts : List T) (lo hi : Option Int) : List T := (ts.drop (HT.sIx ts.length 0 lo)).take (HT.sIx ts.length ts.length hi - HT.sIx ts.length 0 lo)
theorem cut_rep {vs : List V} {ts : List T} (r : RepL K S H vs ts) (lo hi : Option Int) : RepL K S H (cutV vs lo hi) (cutT ts lo hi) := by
  unfold cutV cutT
  rw [r.length]
  exact (r.drop _).take _
def eSl (fl : Bool) (a : EM) (l u : OM) : EM := fun s h Q E => a s h (fun x h1 => l s h1 (fun lo h2 => u s h2 (fun hi h3 => match x with
  | .scr ns => mk fl (cutT (ns.map T.int) lo hi) h3 Q
  | x => match lsOf h3 x with
    | some ts => mk fl (cutT ts lo hi) h3 Q
    | none => False) E) E) E
theorem j_sl (fl : Bool) {a : Expr} {lo hi : Option Expr} {ma : EM} {ml mh : OM} {p2 pos : Pos} (ha : JE X W a ma) (hl : JO X W lo ml) (hh : JO X W hi mh) : JE X W (.Subscript a (.Slice lo hi none p2) pos) (eSl fl ma ml mh) := PE.wk (pe_slice sl_list ha hl hh) fun σ H Q' ⟨S, h, s, Q, E, m, rs, lk, hm, pk⟩ =>
  ⟨S, h, s, _, E, m, rs, lk, hm, fun S1 H1 h1 v x f1 m1 r1 q1 => ⟨S1, h1, s, _, E, m1, rs.fut f1, lk.fut f1, q1, fun S2 H2 h2 l f2 m2 q2 => ⟨S2, h2, s, _, E, m2, rs.fut (f1.trans f2), lk.fut (f1.trans f2), q2, fun S3 H3 h3 u f3 m3 q3 => by
    have r3 := r1.fut (f2.trans f3)
    split at q3
    · obtain ⟨a, rfl, hh, _⟩ := r3.scr_sq
      exact ⟨_, _, rfl, hh, mk_ok m3 (cut_rep (RepL.of_ints _) l u) q3 (pk.fut ((f1.trans f2).trans f3))⟩
    · split at q3
      · rename_i ts e
        obtain ⟨a, vs, rfl, ha, r⟩ := lsOf_ok m3 r3 e
        exact ⟨a, vs, rfl, SqL.of ha, mk_ok m3 (cut_rep r l u) q3 (pk.fut ((f1.trans f2).trans f3))⟩
      · exact q3.elim⟩⟩⟩

abbrev RLT := List T → Hq → TK → Prop
def CP (K : PySem.W.Frag) (r : List V → Hp → VK → Prop) (o : RLT) : Prop := ∀ S H h vs xs Q Q', Sim K S H h → RepL K S H vs xs → o xs h Q → PK K S H Q Q' → r vs H Q'
def eCB (o : RLT) (a : AM) : EM := fun s h Q E => a s h (fun xs h1 => o xs h1 Q) E
theorem lift_cb {r : List V → Hp → VK → Prop} {o : RLT} {a : AM} (c : CP K r o) : ∀ σ H Q, liftE K W (eCB o a) σ H Q → tCB r (liftA K W a) σ H Q := fun σ H Q' ⟨S, h, s, Q, E, m, rs, lk, hm, pk⟩ =>
  ⟨S, h, s, _, E, m, rs, lk, hm, fun S1 H1 h1 vs xs f1 m1 r1 q1 => c S1 H1 h1 vs xs Q Q' m1 r1 q1 (pk.fut f1)⟩
theorem j_cb {x : Str} {id : String} {e : Expr} {es : List Expr} {a : AM} {r : List V → Hp → VK → Prop} {o : RLT} {p pos : Pos} (hc : CallR X (.builtin id) r) (c : CP X.K r o) (hg : Gl X x) (hm : X.mg x = none) (hv : bootBuiltins x = some (.builtin id)) (ha : JA X W (e :: es) a)
    (hn : x ≠ "__name__" := by decide) (hdb : (x == ("__debug__" : Str)) = false := by decide) (he : starEach (e :: es) X.env = (false, eval e X.env) :: starEach es X.env := by rfl) (hpl : (backTo pos (starEach es X.env)).any (·.1) = false := by rfl) :
    JE X W (.Call (.Name x p) (e :: es) [] pos) (eCB o a) := PE.wk (pe_callB hc hg hm hv ha hn hdb he hpl) (lift_cb c)
theorem j_cty {x : Str} {id : String} {e : Expr} {es : List Expr} {a : AM} {r : List V → Hp → VK → Prop} {o : RLT} {p pos : Pos} (hc : CallR X (.type id) r) (c : CP X.K r o) (hg : Gl X x) (hm : X.mg x = none) (hv : bootBuiltins x = some (.type id)) (ha : JA X W (e :: es) a)
    (hn : x ≠ "__name__" := by decide) (hdb : (x == ("__debug__" : Str)) = false := by decide) (he : starEach (e :: es) X.env = (false, eval e X.env) :: starEach es X.env := by rfl) (hpl : (backTo pos (starEach es X.env)).any (·.1) = false := by rfl) :
    JE X W (.Call (.Name x p) (e :: es) [] pos) (eCB o a) := PE.wk (pe_callTy hc hg hm hv ha hn hdb he hpl) (lift_cb c)
def oLen : RLT := fun xs h Q => match xs with
  | [.tup ts] => Q (.int ts.length) h
  | [.scr ns] => Q (.int ns.length) h
  | [.str z] => z.length ≤ lim ∧ Q (.int z.length) h
  | [x] => match lsOf h x with
    | some ts => Q (.int ts.length) h
    | none => False
  | _ => False
theorem c_len : CP K (fun xs H Q => ∃ x n, xs = [x] ∧ LenV K x H n ∧ Q (.int n) H) oLen := fun S H h vs xs Q Q' m r q pk => by
  unfold oLen at q
  split at q
  · cases r with
    | cons r1 rn =>
      cases rn
      cases r1 with
      | tup s hh r => exact ⟨_, _, rfl, .inr ⟨_, SqT.of hh, r.length.symm⟩, pk S H h _ _ Fut.refl m (.int _) q⟩
      | tupK hh r => exact ⟨_, _, rfl, .inr ⟨_, .inr hh, r.length.symm⟩, pk S H h _ _ Fut.refl m (.int _) q⟩
  · cases r with
    | cons r1 rn =>
      cases rn
      obtain ⟨a, rfl, hh, _⟩ := r1.scr_sq
      exact ⟨_, _, rfl, .inl ⟨_, hh, by rw [List.length_map]⟩, pk S H h _ _ Fut.refl m (.int _) q⟩
  · cases r with
    | cons r1 rn =>
      cases rn
      cases r1
      exact ⟨_, _, rfl, ⟨lim_le q.1, rfl⟩, pk S H h _ _ Fut.refl m (.int _) q.2⟩
  · cases r with
    | cons r1 rn =>
      cases rn
      split at q
      · rename_i ts e
        obtain ⟨a, vs, rfl, ha, r⟩ := lsOf_ok m r1 e
        exact ⟨_, _, rfl, .inl ⟨_, SqL.of ha, r.length.symm⟩, pk S H h _ _ Fut.refl m (.int _) q⟩
      · exact q.elim
  · exact q.elim
def oInt : RLT := fun xs h Q => match xs with
  | [.int i] => Q (.int i) h
  | [.bl b] => Q (.int (if b then 1 else 0)) h
  | _ => False
theorem c_int : CP K (fun xs H Q => (∃ i, xs = [.int i] ∧ Q (.int i) H) ∨ ∃ k, xs = [.bl k] ∧ Q (.int (if k then 1 else 0)) H) oInt := fun S H h vs xs Q Q' m r q pk => by
  unfold oInt at q
  split at q
  · cases r with
    | cons r1 rn => cases rn; cases r1; exact .inl ⟨_, rfl, pk S H h _ _ Fut.refl m (.int _) q⟩
  · cases r with
    | cons r1 rn => cases rn; cases r1; exact .inr ⟨_, rfl, pk S H h _ _ Fut.refl m (.int _) q⟩
  · exact q.elim
def intsOf : List T → Option (List Int)
  | [] => some []
  | .int i :: ts => match intsOf ts with
    | some ns => some (i :: ns)
    | none => none
  | _ => none
theorem intsOf_ok : ∀ {ts : List T} {ns : List Int}, intsOf ts = some ns → ts = ns.map T.int
  | [], _, e => by cases e; rfl
  | .int i :: ts, _, e => by
    unfold intsOf at e
    split at e
    · rename_i ns z; cases e; rw [intsOf_ok z]; rfl
    · cases e
  | .non :: _, _, e => by cases e
  | .bl _ :: _, _, e => by cases e
  | .str _ :: _, _, e => by cases e
  | .tup _ :: _, _, e => by cases e
  | .lst _ :: _, _, e => by cases e
  | .ins _ _ :: _, _, e => by cases e
  | .ref _ :: _, _, e => by cases e
  | .ty _ :: _, _, e => by cases e
  | .scr _ :: _, _, e => by cases e
@[simp] theorem intsOf_map : ∀ ns : List Int, intsOf (ns.map T.int) = some ns
  | [] => rfl
  | n :: ns => by show (match intsOf (ns.map T.int) with | some ms => some (n :: ms) | none => none) = _; rw [intsOf_map ns]
def intsIn (h : Hq) (x : T) : Option (List Int) := (lsOf h x).bind intsOf
theorem intsIn_ok (m : Sim K S H h) {v : V} {x : T} {ns : List Int} (r : Rep K S H v x) (e : intsIn h x = some ns) : ∃ a, v = .ref a ∧ H a = some (.lst (ns.map V.int)) := by
  unfold intsIn at e
  cases z : lsOf h x with
  | none => rw [z] at e; cases e
  | some ts =>
    rw [z] at e
    obtain ⟨a, vs, rfl, ha, r⟩ := lsOf_ok m r z
    rw [intsOf_ok e] at r
    rw [r.ints] at ha
    exact ⟨a, rfl, ha⟩
def oSumL : RLT := fun xs h Q => match xs with
  | [x] => match intsIn h x with
    | some ns => Q (.int ns.sum) h
    | none => False
  | _ => False
def oMax : RLT := fun xs h Q => match xs with
  | [.int i, .int j] => Q (.int (if j > i then j else i)) h
  | [x] => match intsIn h x with
    | some ns => 0 < ns.length ∧ ∀ m, m ∈ ns → (∀ y, y ∈ ns → y ≤ m) → Q (.int m) h
    | none => False
  | _ => False
def oMin : RLT := fun xs h Q => match xs with
  | [.int i, .int j] => Q (.int (if j < i then j else i)) h
  | [x] => match intsIn h x with
    | some ns => 0 < ns.length ∧ ∀ m, m ∈ ns → (∀ y, y ∈ ns → m ≤ y) → Q (.int m) h
    | none => False
  | _ => False
def rMaxA (K : PySem.W.Frag) : List V → Hp → VK → Prop := fun xs H Q => (∃ i j, xs = [.int i, .int j] ∧ Q (.int (if j > i then j else i)) H) ∨ rMax K xs H Q
def rMinA (K : PySem.W.Frag) : List V → Hp → VK → Prop := fun xs H Q => (∃ i j, xs = [.int i, .int j] ∧ Q (.int (if j < i then j else i)) H) ∨ rMin K xs H Q
theorem call_maxA (hc : X.calm = true) : CallR X (.builtin "max") (rMaxA X.K) := CallR.or (call_max2 hc) (cr_max hc)
theorem call_minA (hc : X.calm = true) : CallR X (.builtin "min") (rMinA X.K) := CallR.or (call_min2 hc) (cr_min hc)
theorem c_max : CP K (rMaxA K) oMax := fun S H h vs xs Q Q' m r q pk => by
  unfold oMax at q
  split at q
  · cases r with
    | cons r1 rn => cases rn with
      | cons r2 rn => cases rn; cases r1; cases r2; exact .inl ⟨_, _, rfl, pk S H h _ _ Fut.refl m (.int _) q⟩
  · cases r with
    | cons r1 rn =>
      cases rn
      split at q
      · rename_i ns e
        obtain ⟨a, rfl, ha⟩ := intsIn_ok m r1 e
        exact .inr ⟨a, ns, rfl, SqL.of ha, q.1, fun k hk hl => pk S H h _ _ Fut.refl m (.int _) (q.2 k hk hl)⟩
      · exact q.elim
  · exact q.elim
theorem c_min : CP K (rMinA K) oMin := fun S H h vs xs Q Q' m r q pk => by
  unfold oMin at q
  split at q
  · cases r with
    | cons r1 rn => cases rn with
      | cons r2 rn => cases rn; cases r1; cases r2; exact .inl ⟨_, _, rfl, pk S H h _ _ Fut.refl m (.int _) q⟩
  · cases r with
    | cons r1 rn =>
      cases rn
      split at q
      · rename_i ns e
        obtain ⟨a, rfl, ha⟩ := intsIn_ok m r1 e
        exact .inr ⟨a, ns, rfl, SqL.of ha, q.1, fun k hk hl => pk S H h _ _ Fut.refl m (.int _) (q.2 k hk hl)⟩
      · exact q.elim
  · exact q.elim
def oList (fl : Bool) : RLT := fun xs h Q => match xs with
  | [.tup ts] => mk fl ts h Q
  | [x] => match lsOf h x with
    | some ts => mk fl ts h Q
    | none => False
  | _ => False
def blsOf : List T → Option (List Bool)
  | [] => some []
  | .bl i :: ts => match blsOf ts with
    | some ns => some (i :: ns)
    | none => none
  | _ => none
@[simp] theorem blsOf_map : ∀ ns : List Bool, blsOf (ns.map T.bl) = some ns
  | [] => rfl
  | n :: ns => by show (match blsOf (ns.map T.bl) with | some ms => some (n :: ms) | none => none) = _; rw [blsOf_map ns]
def oBls (g : List Bool → Bool) : RLT := fun xs h Q => match xs with
  | [x] => match (lsOf h x).bind blsOf with
    | some bs => Q (.bl (g bs)) h
    | none => False
  | _ => False
def PX (K : PySem.W.Frag) (S : Fz) (H : Hp) (E : Ex → Hq → Prop) (E' : XK) : Prop := ∀ S1 H1 h1 x cls d, Fut S H S1 H1 → Sim K S1 H1 h1 → RepX K S1 H1 cls d x → E x h1 → E' cls d H1
def liftSp (K : PySem.W.Frag) (n : Nat) (c : Con) : Sp := fun vs H Q' E' => ∃ S h ts Q E, Sim K S H h ∧ RepL K S H vs ts ∧ ts.length = n ∧ c ts h Q E ∧ PK K S H Q Q' ∧ PX K S H E E'
def eCall (n : Nat) (c : Con) (a : AM) : EM := fun s h Q E => a s h (fun ts h1 => ts.length = n ∧ c ts h1 Q fun x h2 => E x s h2) E
theorem j_call {CX : CXT} {k n : Nat} {f : Addr} {fd : FuncData} {ps : List Str} {c : Con} {x : Str} {p pos : Pos} {e : Expr} {es : List Expr} {a : AM} (F : FnOk X.prog X.w X.K X.mg X.base CX k f fd ps (liftSp X.K n c)) (hr : Room k X.A) (hg : Gl X x) (hm : X.mg x = some (.ref f))
    (hk : PySem.W.keepIn X.K (.ref f) = true) (hb : Binds X.K fd ps []) (hx : ∀ σ, PassesAt CX X σ (WE W σ)) (ha : JA X W (e :: es) a)
    (hd : (x == ("__debug__" : Str)) = false := by decide) (he : starEach (e :: es) X.env = (false, eval e X.env) :: starEach es X.env := by rfl) (hpl : (backTo pos (starEach es X.env)).any (·.1) = false := by rfl) :
    JE X W (.Call (.Name x p) (e :: es) [] pos) (eCall n c a) := PE.wk (pe_callS (E := WE W) F hr hg hm hk hb hx ha hd he hpl) fun σ H Q' ⟨S, h, s, Q, E, m, rs, lk, hm, pk⟩ =>
  ⟨S, h, s, _, E, m, rs, lk, hm, fun S1 H1 h1 vs ts f1 m1 r1 ⟨l1, q1⟩ => ⟨S1, h1, ts, Q, _, m1, r1, l1, q1, pk.fut f1, fun S2 H2 h2 x cls d f2 m2 r2 q2 => lk S2 H2 h2 σ s x cls d (f1.trans f2) m2 (rs.fut (f1.trans f2)) r2 q2⟩⟩
abbrev W0 : WX := fun _ _ _ _ => False
theorem pxT {P : Program} {w : World} (tk : L2N.Takes X W) (hP : X.prog = P := by rfl) (hw : X.w = w := by rfl) : ∀ σ, PassesAt (L2N.CX P w) X σ (WE W σ) := by
  subst hP hw
  exact fun σ => L2N.passAt tk σ
abbrev MT := T → List T → Hq → TK → Prop
def eBM (ok : T → Hq → Prop) (o : MT) (a : EM) (r : AM) : EM := fun s h Q E => a s h (fun x h1 => ok x h1 ∧ r s h1 (fun xs h2 => o x xs h2 Q) E) E
def TyOk (K : PySem.W.Frag) (Ty : String) (ok : T → Hq → Prop) : Prop := ∀ S H h v x, Sim K S H h → Rep K S H v x → ok x h → tyV K Ty v H
def MR (K : PySem.W.Frag) (r : V → List V → Hp → VK → Prop) (o : MT) : Prop := ∀ S H h v vs x xs Q Q', Sim K S H h → Rep K S H v x → RepL K S H vs xs → o x xs h Q → PK K S H Q Q' → r v vs H Q'
theorem lift_bm {Ty : String} {ok : T → Hq → Prop} {r : V → List V → Hp → VK → Prop} {o : MT} {a : EM} {b : AM} (t : TyOk K Ty ok) (c : MR K r o) : ∀ σ H Q, liftE K W (eBM ok o a b) σ H Q → tBM K Ty r (liftE K W a) (liftA K W b) σ H Q := fun σ H Q' ⟨S, h, s, Q, E, m, rs, lk, hm, pk⟩ =>
  ⟨S, h, s, _, E, m, rs, lk, hm, fun S1 H1 h1 v x f1 m1 r1 ⟨k1, q1⟩ => ⟨t S1 H1 h1 v x m1 r1 k1, S1, h1, s, _, E, m1, rs.fut f1, lk.fut f1, q1, fun S2 H2 h2 vs xs f2 m2 r2 q2 => c S2 H2 h2 v vs x xs Q Q' m2 (r1.fut f2) r2 q2 (pk.fut (f1.trans f2))⟩⟩
def eBM0 (ok : T → Hq → Prop) (o : MT) (a : EM) : EM := fun s h Q E => a s h (fun x h1 => ok x h1 ∧ o x [] h1 Q) E
theorem j_bm {Ty : String} {name : Str} {id : String} {o : Expr} {e : Expr} {es : List Expr} {ok : T → Hq → Prop} {r : V → List V → Hp → VK → Prop} {q : MT} {a : EM} {b : AM} {apos cpos : Pos} (pa : PlainAttrs Ty) (slot : Slot Ty name id) (hty : typeOf (.builtin id) = pure (.type "method_descriptor")) (hm : MtR X id r) (t : TyOk X.K Ty ok) (c : MR X.K r q) (ho : JE X W o a) (ha : JA X W (e :: es) b)
    (hbase : attributeBase o name X.env (eval o X.env) = eval o X.env := by rfl)
    (hfew : ((backTo cpos (starEach (e :: es) X.env)).all (fun x => !x.1) && (backToKw cpos (keywordEach [] X.env)).all (fun x => x.1.isSome)
      && decide ((e :: es).length + ([] : List Keyword).length + (if ([] : List Keyword).isEmpty then 0 else 1) < 30)) = true := by rfl) (hline : (apos.endLine == cpos.line) = true := by rfl)
    (hs : starEach (e :: es) X.env = (false, eval e X.env) :: starEach es X.env := by rfl) (hplain : ((backTo cpos (starEach es X.env)).any fun x => x.fst) = false := by rfl) :
    JE X W (.Call (.Attribute o name apos) (e :: es) [] cpos) (eBM ok q a b) := PE.wk (pe_bm pa slot hty hm ho ha (hbase := hbase) (hfew := hfew) (hline := hline) (hs := hs) (hplain := hplain)) (lift_bm t c)
def isLs : T → Hq → Prop := fun x h => (lsOf h x).isSome = true
theorem ty_list : TyOk K "list" isLs := fun S H h v x m r k => by
  unfold isLs at k
  cases z : lsOf h x with
  | none => rw [z] at k; cases k
  | some ts =>
    obtain ⟨a, vs, rfl, ha, _⟩ := lsOf_ok m r z
    exact .inl ⟨rfl, vs, SqL.of ha⟩
def oApp : MT := fun x xs h Q => match x, xs with
  | .ref p, [y] => match h p with
    | some (.lst ts) => ts.length < lim ∧ Q .non (put h p (.lst (ts ++ [y])))
    | _ => False
  | _, _ => False
theorem ref_lst (m : Sim K S H h) {p : Addr} {ts : List T} (e : h p = some (.lst ts)) : ∃ vs, H p = some (.lst vs) ∧ RepL K S H vs ts := by
  obtain ⟨u, e1, vs, e2, r2⟩ := m.ob p _ e
  subst e2
  exact ⟨vs, e1, r2⟩
theorem c_app : MR K rAppend oApp := fun S H h v vs x xs Q Q' m r1 r2 q pk => by
  unfold oApp at q
  split at q
  · split at q
    · rename_i ts e
      cases r1
      cases r2 with
      | cons ry rn =>
        cases rn
        obtain ⟨vs, e1, r⟩ := ref_lst m e
        refine ⟨_, vs, _, rfl, rfl, e1, lim_lt (by rw [r.length]; exact Nat.le_of_lt q.1), ?_⟩
        exact pk S _ _ _ _ (fut_upd (m.nS' e)) (m.write (o' := .lst (ts ++ [_])) e ⟨_, rfl, r.append (.cons ry .nil)⟩) .non q.2
    · exact q.elim
  · exact q.elim
def oPop : MT := fun x xs h Q => match x, xs with
  | .ref p, [] => match h p with
    | some (.lst ts) => match ts[ts.length - 1]? with
      | some y => Q y (put h p (.lst ts.dropLast))
      | none => False
    | _ => False
  | _, _ => False
def oExt : MT := fun x xs h Q => match x, xs with
  | .ref p, [y] => match h p, lsOf h y with
    | some (.lst ts), some us => ts.length + us.length ≤ lim ∧ Q .non (put h p (.lst (ts ++ us)))
    | _, _ => False
  | _, _ => False
end
end TL

namespace TL
open PySem L2
section
variable {X : Cx} {W : WX} {K : PySem.W.Frag} {S : Fz} {H : Hp} {h : Hq}
def tTru (a : EM) : TM := fun s h Q E => a s h (fun x h1 => match x with
  | .non => Q false h1
  | .bl b => Q b h1
  | .int i => Q (i != 0) h1
  | .str z => z.length ≤ lim ∧ Q ((z.length : Int) != 0) h1
  | .tup ts => Q (!ts.isEmpty) h1
  | x => match lsOf h1 x with
    | some ts => Q (!ts.isEmpty) h1
    | none => False) E
theorem RepL.isEmpty {vs : List V} {ts : List T} (r : RepL K S H vs ts) : vs.isEmpty = ts.isEmpty := by cases r <;> rfl
theorem jt_tru {a : Expr} {m : EM} (ha : JE X W a m) (he : ∀ whole, isTrue a X.env whole = (do let v ← whole; standAt a.pos; holding [v] (truthy v)) := by intro _; rfl) : JT X W a (tTru m) := PT.wk (pt_truth ha he) fun σ H Q' ⟨S, h, s, Q, E, m, rs, lk, hm, pk⟩ =>
  ⟨S, h, s, _, E, m, rs, lk, hm, fun S1 H1 h1 v x f1 m1 r1 q1 => by
    split at q1
    · cases r1; exact ⟨false, rfl, pk S1 H1 h1 _ f1 m1 q1⟩
    · cases r1; exact ⟨_, rfl, pk S1 H1 h1 _ f1 m1 q1⟩
    · cases r1; exact ⟨_, rfl, pk S1 H1 h1 _ f1 m1 q1⟩
    · cases r1; exact ⟨_, ⟨lim_le q1.1, rfl⟩, pk S1 H1 h1 _ f1 m1 q1.2⟩
    · cases r1 with
      | tup s hh r => exact ⟨_, .inr (.inl ⟨_, SqT.of hh, by rw [r.isEmpty]⟩), pk S1 H1 h1 _ f1 m1 q1⟩
      | tupK hh r => exact ⟨_, .inr (.inl ⟨_, .inr hh, by rw [r.isEmpty]⟩), pk S1 H1 h1 _ f1 m1 q1⟩
    · split at q1
      · rename_i ts e
        obtain ⟨a, vs, rfl, ha, r⟩ := lsOf_ok m1 r1 e
        exact ⟨_, .inl ⟨_, SqL.of ha, by rw [r.isEmpty]⟩, pk S1 H1 h1 _ f1 m1 q1⟩
      · exact q1.elim⟩

def sNext : SM := fun D s h => D.nx s h
def sSeq (a b : SM) : SM := fun D s h => a { D with nx := b D } s h
def sDrop (a : EM) : SM := fun D s h => a s h (fun _ h1 => D.nx s h1) D.ex
def sRet (a : EM) : SM := fun D s h => a s h D.rt D.ex
def sRetN : SM := fun D _ h => D.rt .non h
def sIf (c : TM) (a b : SM) : SM := fun D s h => c s h (fun d h1 => if d = true then a D s h1 else b D s h1) D.ex
def sBreak : SM := fun D s h => D.bk s h
def sCont : SM := fun D s h => D.ct s h
def sNever : SM := fun _ _ _ => False
theorem jss_nil : JSs X W [] sNext := PSs.wk pss_nil fun D' σ H ⟨S, h, s, D, m, rs, lk, hm⟩ => lk.nx S H h σ s Fut.refl m rs hm
theorem jss_one {st : Stmt} {a : SM} (ha : JS X W st a) : JSs X W [st] a := pss_one ha
theorem jss_cons {st : Stmt} {rest : List Stmt} {a b : SM} (ha : JS X W st a) (hb : JSs X W rest b) : JSs X W (st :: rest) (sSeq a b) := PSs.wk (pss_cons ha hb) fun D' σ H ⟨S, h, s, D, m, rs, lk, hm⟩ =>
  ⟨S, h, s, { D with nx := b D }, m, rs, { nx := fun S1 H1 h1 σ1 s1 f1 m1 r1 q1 => ⟨S1, h1, s1, D, m1, r1, lk.fut f1, q1⟩, rt := lk.rt, bk := lk.bk, ct := lk.ct, ex := lk.ex }, hm⟩
theorem js_expr {e : Expr} {a : EM} {pos : Pos} (ha : JE X W e a) (hs : swapsWith e none pos.line X.env = pure false := by rfl) : JS X W (.Expr e pos) (sDrop a) := PS.wk (ps_expr ha hs) fun D' σ H ⟨S, h, s, D, m, rs, lk, hm⟩ =>
  ⟨S, h, s, _, D.ex, m, rs, lk.ex, hm, fun S1 H1 h1 v x f1 m1 r1 q1 => lk.nx S1 H1 h1 σ s f1 m1 (rs.fut f1) q1⟩
theorem js_ret {e : Expr} {a : EM} {pos : Pos} (ha : JE X W e a) : JS X W (.Return (some e) pos) (sRet a) := PS.wk (ps_ret ha) fun D' σ H ⟨S, h, s, D, m, rs, lk, hm⟩ => ⟨S, h, s, _, D.ex, m, rs, lk.ex, hm, lk.rt⟩
theorem js_if {c : Expr} {as bs : List Stmt} {mc : TM} {a b : SM} {pos : Pos} (hc : JT X W c mc) (ha : JSs X W as a) (hb : JSs X W bs b) : JS X W (.If c as bs pos) (sIf mc a b) := PS.wk (ps_if hc ha hb) fun D' σ H ⟨S, h, s, D, m, rs, lk, hm⟩ =>
  ⟨S, h, s, _, D.ex, m, rs, lk.ex, hm, fun S1 H1 h1 d f1 m1 q1 => by
    cases d with
    | true => rw [if_pos rfl] at q1 ⊢; exact ⟨S1, h1, s, D, m1, rs.fut f1, lk.fut f1, q1⟩
    | false => rw [if_neg Bool.false_ne_true] at q1 ⊢; exact ⟨S1, h1, s, D, m1, rs.fut f1, lk.fut f1, q1⟩⟩

def gN (i : Nat) : GM := fun t s h Q _ => Q (s.set i (some t)) h
theorem jg_name {i : Nat} {x : Str} {pos : Pos} (hN : X.N.Nodup) (hi : X.N[i]? = some x) (hx : Loc X.env.scope x) (hf : X.fn x = true ∨ X.env.scope.names.lookup x = some .local := by first | exact .inl rfl | exact .inr rfl | assumption) : JG X W (.Name x pos) (gN i) := PG.wk (pg_name hN hi hx hf) fun v σ H Q' ⟨S, h, s, t, Q, E, m, rs, r, lk, hm, pk⟩ => pk S H h _ _ Fut.refl m (rs.set r i) hm
def gNil : GMs := fun ts s h Q _ => ts = [] ∧ Q s h
def gCons (a : GM) (b : GMs) : GMs := fun ts s h Q E => match ts with
  | t :: r => a t s h (fun s1 h1 => b r s1 h1 Q E) E
  | [] => False
theorem jgs_nil : JGs X W [] gNil := PGs.wk pgs_nil fun v σ H Q' ⟨S, h, s, t, Q, E, m, rs, r, lk, hm, pk⟩ => by
  obtain ⟨rfl, hm⟩ := hm
  cases r
  exact ⟨rfl, pk S H h _ _ Fut.refl m rs hm⟩
theorem jgs_cons {e : Expr} {es : List Expr} {a : GM} {b : GMs} (ha : JG X W e a) (hb : JGs X W es b) (hs : (assignEach (e :: es) X.env).map (·.2) = assign e X.env :: (assignEach es X.env).map (·.2) := by rfl) : JGs X W (e :: es) (gCons a b) := PGs.wk (pgs_cons ha hb hs) fun v σ H Q' ⟨S, h, s, t, Q, E, m, rs, r, lk, hm, pk⟩ => by
  cases r with
  | nil => exact hm.elim
  | cons r1 rn => exact ⟨_, _, rfl, S, h, s, _, _, E, m, rs, r1, lk, hm, fun S1 H1 h1 σ1 s1 f1 m1 q1 k1 => ⟨S1, h1, s1, _, Q, E, m1, q1, rn.fut f1, lk.fut f1, k1, pk.fut f1⟩⟩
def gTup (n : Nat) (b : GMs) : GM := fun t s h Q E => match t with
  | .tup ts => ts.length = n ∧ b ts s h Q E
  | _ => False
theorem jg_tup {es : List Expr} {k n : Nat} {b : GMs} {pos : Pos} (hc : X.calm = true) (hb : JGs X W es b) (hn : (assignEach es X.env).length = n := by rfl) (hst : (assignEach es X.env).findIdx? (·.1) = none := by rfl) : JG X W (.Tuple es k pos) (gTup n b) := PG.wk (pg_tup hc hb hn hst) fun v σ H Q' ⟨S, h, s, t, Q, E, m, rs, r, lk, hm, pk⟩ => by
  unfold gTup at hm
  split at hm
  · cases r with
    | tup s hh r => exact ⟨_, _, rfl, SqT.of hh, by rw [r.length]; exact hm.1, S, h, _, _, Q, E, m, rs, r, lk, hm.2, pk⟩
    | tupK hh r => exact ⟨_, _, rfl, .inr hh, by rw [r.length]; exact hm.1, S, h, _, _, Q, E, m, rs, r, lk, hm.2, pk⟩
  · exact hm.elim
def setT (o i v : T) (h : Hq) (Q : Hq → Prop) : Prop := match o, i with
  | .ref p, .int k => match h p with
    | some (.lst ts) => match ixN ts.length k with
      | some j => Q (put h p (.lst (ts.set j v)))
      | none => False
    | _ => False
  | _, _ => False
theorem setT_ok (m : Sim K S H h) {o i v : V} {to ti tv : T} {Q : Hq → Prop} {Q' : Hp → Prop} (ro : Rep K S H o to) (ri : Rep K S H i ti) (rv : Rep K S H v tv) (q : setT to ti tv h Q) (pk : ∀ H1 h1, Fut S H S H1 → Sim K S H1 h1 → Q h1 → Q' H1) : rSetL o i v H Q' := by
  unfold setT at q
  split at q
  · split at q
    · split at q
      · rename_i ts e _ j ej
        cases ro
        cases ri
        obtain ⟨vs, e1, r⟩ := ref_lst m e
        refine ⟨_, vs, _, j, rfl, rfl, e1, by rw [r.length]; exact ej, ?_⟩
        exact pk _ _ (fut_upd (m.nS' e)) (m.write (o' := .lst (ts.set j tv)) e ⟨_, rfl, r.set rv j⟩) q
      · exact q.elim
    · exact q.elim
  · exact q.elim
def gSub (a b : EM) : GM := fun v s h Q E => a s h (fun o h1 => b s h1 (fun i h2 => setT o i v h2 fun h3 => Q s h3) E) E
theorem jg_sub {o i : Expr} {a b : EM} {pos : Pos} (ho : JE X W o a) (hi : JE X W i b)
    (ha : ∀ v, assign (.Subscript o i pos) X.env v = (do
      let ov ← holding [v] (eval o X.env)
      let iv ← holding [v, ov] (eval i X.env)
      standAt pos
      holding [v, ov, iv] (setItem ov iv v)
      release [v, ov, iv] []) := by intro _; rfl) : JG X W (.Subscript o i pos) (gSub a b) := PG.wk (pg_sub ho hi set_list ha) fun v σ H Q' ⟨S, h, s, t, Q, E, m, rs, r, lk, hm, pk⟩ =>
  ⟨S, h, s, _, E, m, rs, lk, hm, fun S1 H1 h1 vo to f1 m1 r1 q1 => ⟨S1, h1, s, _, E, m1, rs.fut f1, lk.fut f1, q1, fun S2 H2 h2 vi ti f2 m2 r2 q2 =>
    setT_ok m2 (r1.fut f2) r2 (r.fut (f1.trans f2)) q2 fun H3 h3 f3 m3 q3 => pk S2 H3 h3 σ s ((f1.trans f2).trans f3) m3 (rs.fut ((f1.trans f2).trans f3)) q3⟩⟩
def sAsg (a : EM) (g : GM) : SM := fun D s h => a s h (fun x h1 => g x s h1 D.nx D.ex) D.ex
theorem js_asg {tg e : Expr} {a : EM} {g : GM} {pos : Pos} (ha : JE X W e a) (hg : JG X W tg g) (hs : swapsWithSole [tg] e pos.line X.env = pure false := by rfl) (hw : swappedStores [tg] e X.env = pure none := by rfl) (h1 : (assignEach [tg] X.env).map (·.2) = [assign tg X.env] := by rfl) : JS X W (.Assign [tg] e pos) (sAsg a g) := PS.wk (ps_asg ha hg hs hw h1) fun D' σ H ⟨S, h, s, D, m, rs, lk, hm⟩ =>
  ⟨S, h, s, _, D.ex, m, rs, lk.ex, hm, fun S1 H1 h1 v x f1 m1 r1 q1 => ⟨S1, h1, s, x, D.nx, D.ex, m1, rs.fut f1, r1, lk.ex.fut f1, q1, lk.nx.fut f1⟩⟩
theorem js_set {i : Nat} {x : Str} {e : Expr} {a : EM} {pos pos' : Pos} (hN : X.N.Nodup) (hi : X.N[i]? = some x) (hx : Loc X.env.scope x) (ha : JE X W e a) (hs : swapsWith e (some (.Name x pos')) pos.line X.env = pure false := by rfl) (hf : X.fn x = true ∨ X.env.scope.names.lookup x = some .local := by first | exact .inl rfl | exact .inr rfl | assumption) :
    JS X W (.Assign [.Name x pos'] e pos) (sAsg a (gN i)) := PS.wk (ps_set hN hi hx ha hs hf) fun D' σ H ⟨S, h, s, D, m, rs, lk, hm⟩ =>
  ⟨S, h, s, _, D.ex, m, rs, lk.ex, hm, fun S1 H1 h1 v x f1 m1 r1 q1 => lk.nx S1 H1 h1 _ _ f1 m1 ((rs.fut f1).set r1 i) q1⟩
def sPar (i j : Nat) (a : AM) : SM := fun D s h => a s h (fun ts h1 => match ts with
  | [x, y] => D.nx ((s.set i (some x)).set j (some y)) h1
  | _ => False) D.ex
def sAug (i : Nat) (a : EM) (o : R2T) : SM := fun D s h => match s[i]? with
  | some (some x) => a s h (fun y h1 => o x y h1 fun z h2 => D.nx (s.set i (some z)) h2) D.ex
  | _ => False
def oIxL : R2T := fun x y h Q => match y with
  | .int i => match lsOf h x with
    | some ts => atK ts i h Q
    | none => False
  | _ => False
def sAugS (a b e : EM) (o : R2T) : SM := fun D s h => a s h (fun x h1 => b s h1 (fun i h2 => oIxL x i h2 fun y h3 => e s h3 (fun z h4 => o y z h4 fun w h5 => setT x i w h5 fun h6 => D.nx s h6) D.ex) D.ex) D.ex
def oAddI : R2T := oI fun i j => .int (i + j)
def ForK (ts : List T) (stay : Hq → Prop) (g : GM) (b : SM) (D : En) (s : Sl) (h1 : Hq) : Prop := ∃ I : Nat → SK, I 0 s h1 ∧ ∀ i s h, i ≤ ts.length → I i s h → stay h ∧ match ts[i]? with
  | none => D.nx s h
  | some t => g t s h (fun s2 h2 => b { D with nx := I (i + 1), ct := I (i + 1), bk := D.nx } s2 h2) D.ex
def sFor (src : IM) (g : GM) (b : SM) : SM := fun D s h => src s h (fun ts stay h1 => ForK ts stay g b D s h1) D.ex
theorem js_for {tg iter : Expr} {body : List Stmt} {src : IM} {g : GM} {b : SM} {pos : Pos} (hp : PassesOwn (model X.prog X.w) X.A X.env X.xe) (hc : X.calm = true) (hi : JI X W tg iter src) (hg : JG X W tg g) (hb : JSs X W body b) (hs : ∀ x, foldedSetIterable iter X.env x = pure x := by intro _; rfl) :
    JS X W (.For tg iter body [] pos) (sFor src g b) := PS.wk (ps_for hp hc hi hg hb hs) fun D' σ H ⟨S, h, s, D, m, rs, lk, hm⟩ => by
  refine ⟨S, h, s, _, D.ex, m, rs, lk.ex, hm, fun S1 H1 h1 J ts stay f1 m1 it q => ?_⟩
  obtain ⟨I, i0, step⟩ := q
  refine ⟨fun i n σ2 H2 => n = ts.length - i ∧ i ≤ ts.length ∧ ∃ S2 h2 s2, Fut S1 H1 S2 H2 ∧ Sim X.K S2 H2 h2 ∧ RepS X.K S2 H2 σ2 s2 ∧ I i s2 h2, ⟨ts.length, by simp, Nat.zero_le _, S1, h1, s, Fut.refl, m1, rs.fut f1, i0⟩, ?_⟩
  rintro i n σ2 H2 ⟨en, hi, S2, h2, s2, f2, m2, r2, i2⟩
  obtain ⟨st, q2⟩ := step i s2 h2 hi i2
  obtain ⟨go, stop⟩ := it S2 H2 h2 f2.fu m2 st
  cases e : ts[i]? with
  | none =>
    rw [e] at q2
    have hl : i = ts.length := Nat.le_antisymm hi (List.getElem?_eq_none_iff.mp e)
    exact .inl ⟨by rw [hl]; exact stop, lk.nx S2 H2 h2 σ2 s2 (f1.trans f2) m2 r2 q2⟩
  | some t =>
    rw [e] at q2
    have hl : i < ts.length := (List.getElem?_eq_some_iff.mp e).1
    obtain ⟨g1, g2⟩ := go i t e
    refine .inr ⟨g1, fun σ' H' => ∃ S3 h3 s3, Fut S1 H1 S3 H' ∧ Sim X.K S3 H' h3 ∧ RepS X.K S3 H' σ' s3 ∧ I (i + 1) s3 h3, fun σ' H' q => ⟨ts.length - (i + 1), by omega, rfl, hl, q⟩, fun x H3 y => ?_⟩
    obtain ⟨S3, f3, m3, r3⟩ := g2 x H3 y
    refine ⟨S3, h2, s2, t, _, D.ex, m3, r2.fut f3, r3, lk.ex.fut ((f1.trans f2).trans f3), q2, fun S4 H4 h4 σ4 s4 f4 m4 r4 q4 => ?_⟩
    have nxt : PSl X.K S4 H4 (I (i + 1)) (fun σ' H' => ∃ S3 h3 s3, Fut S1 H1 S3 H' ∧ Sim X.K S3 H' h3 ∧ RepS X.K S3 H' σ' s3 ∧ I (i + 1) s3 h3) := fun S5 H5 h5 σ5 s5 f5 m5 r5 q5 => ⟨S5, h5, s5, ((f2.trans f3).trans f4).trans f5, m5, r5, q5⟩
    have fa := ((f1.trans f2).trans f3).trans f4
    exact ⟨S4, h4, s4, { D with nx := I (i + 1), ct := I (i + 1), bk := D.nx }, m4, r4, { nx := nxt, rt := lk.rt.fut fa, bk := lk.nx.fut fa, ct := nxt, ex := lk.ex.fut fa }, q4⟩

def iSeq (a : EM) : IM := fun s h Q E => a s h (fun x h1 => match x with
  | .lst ts => Q ts (fun _ => True) h1
  | .scr ns => Q (ns.map T.int) (fun _ => True) h1
  | .ref p => match h1 p with
    | some (.lst ts) => Q ts (fun h2 => h2 p = some (.lst ts)) h1
    | _ => False
  | _ => False) E
def rng (lo : Int) (n : Nat) : List T := (List.range n).map fun (i : Nat) => T.int (lo + i)
theorem rng_it {lo : Int} {n : Nat} : ItRep K S H (Itr lo n) (rng lo n) (fun _ => True) := fun S1 H1 h1 f1 m1 st => by
  refine ⟨fun i t e => ?_, by show n ≤ (rng lo n).length; unfold rng; simp⟩
  have hi : i < n := by
    have := (List.getElem?_eq_some_iff.mp e).1
    unfold rng at this
    simpa using this
  have et : t = T.int (lo + i) := by
    unfold rng at e
    rw [List.getElem?_map, List.getElem?_range hi] at e
    exact (Option.some.inj e).symm
  subst et
  refine ⟨hi, fun x H2 y => ?_⟩
  obtain ⟨rfl, rfl⟩ := y
  exact ⟨S1, Fut.refl, m1, .int _⟩
def iRange1 (a : AM) : IM := fun s h Q E => a s h (fun ts h1 => match ts with
  | [.int j] => -1000000 ≤ j ∧ j ≤ 1000000 ∧ Q (rng 0 j.toNat) (fun _ => True) h1
  | _ => False) E
def iRange2 (a : AM) : IM := fun s h Q E => a s h (fun ts h1 => match ts with
  | [.int i, .int j] => (-(2 ^ 62) ≤ i ∧ i < 2 ^ 62 ∧ -(2 ^ 62) ≤ j ∧ j < 2 ^ 62) ∧ Q (rng i (j - i).toNat) (fun _ => True) h1
  | _ => False) E
theorem ji_range1 {tg e : Expr} {a : AM} {p pos : Pos} (hg : Gl X "range") (hm : X.mg "range" = none) (ha : JA X W [e] a) (hs : starEach [e] X.env = [(false, eval e X.env)] := by rfl) : JI X W tg (.Call (.Name "range" p) [e] [] pos) (iRange1 a) := PI.wk (pi_range1 hg hm ha hs) fun σ H R ⟨S, h, s, Q, E, m, rs, lk, hm, pk⟩ =>
  ⟨S, h, s, _, E, m, rs, lk, hm, fun S1 H1 h1 vs ts f1 m1 r1 q1 => by
    split at q1
    · cases r1 with
      | cons ra rn =>
        cases rn; cases ra
        rename_i j
        obtain ⟨a1, a2, q1⟩ := q1
        exact ⟨j, rfl, by omega, by omega, pk S1 H1 h1 _ _ _ f1 m1 rng_it q1⟩
    · exact q1.elim⟩
def enumT (ts : List T) : List T := ts.mapIdx fun (i : Nat) t => T.tup [T.int i, t]
def iEnum (a : AM) : IM := fun s h Q E => a s h (fun xs h1 => match xs with
  | [.lst ts] => Q (enumT ts) (fun _ => True) h1
  | [.ref p] => match h1 p with
    | some (.lst ts) => Q (enumT ts) (fun h2 => h2 p = some (.lst ts)) h1
    | _ => False
  | _ => False) E
theorem enum_it {a : Addr} {ts : List T} {stay : Hq → Prop} (hl : ∀ S1 H1 h1, Fu S H S1 H1 → Sim K S1 H1 h1 → stay h1 → ∃ vs, SqL K H1 a vs ∧ RepL K S1 H1 vs ts) : ItRep K S H (Ite K a) (enumT ts) stay := fun S1 H1 h1 f1 m1 st => by
  obtain ⟨vs, q, r1⟩ := hl S1 H1 h1 f1 m1 st
  refine ⟨fun i t e => ?_, ⟨vs, q, by rw [r1.length]; unfold enumT; simp⟩⟩
  unfold enumT at e
  rw [List.getElem?_mapIdx] at e
  cases z : ts[i]? with
  | none => rw [z] at e; cases e
  | some y =>
    rw [z] at e
    cases e
    obtain ⟨v, ev, rv⟩ := r1.get z
    refine ⟨⟨vs, v, q, ev⟩, fun x H2 y => ?_⟩
    obtain ⟨p, w, rfl, np, rfl, yy⟩ := y
    have ex : w = v := Option.some.inj ((yy vs q).symm.trans ev)
    subst ex
    obtain ⟨m2, f2⟩ := m1.frozen (u := .tup [.int (i : Nat), w]) np
    exact ⟨_, f2, m2, .tup (.inr rfl) upd_same (.cons (.int _) (.cons (rv.fut f2) .nil))⟩
theorem ji_enum {elts : List Expr} {kk : Nat} {tpos : Pos} {e : Expr} {a : AM} {p pos : Pos} (hg : Gl X "enumerate") (hm : X.mg "enumerate" = none) (ha : JA X W [e] a) (hs : starEach [e] X.env = [(false, eval e X.env)] := by rfl) : JI X W (.Tuple elts kk tpos) (.Call (.Name "enumerate" p) [e] [] pos) (iEnum a) := PI.wk (pi_enum hg hm ha hs) fun σ H R ⟨S, h, s, Q, E, m, rs, lk, hm, pk⟩ =>
  ⟨S, h, s, _, E, m, rs, lk, hm, fun S1 H1 h1 vs ts f1 m1 r1 q1 => by
    split at q1
    · cases r1 with
      | cons ra rn =>
        cases rn
        cases ra with
        | lst s hh r => exact ⟨_, _, rfl, SqL.of hh, pk S1 H1 h1 _ _ _ f1 m1 (enum_it fun S2 H2 h2 f2 m2 _ => ⟨_, SqL.of ((f2.kp _ s).trans hh), r.fu f2⟩) q1⟩
    · cases r1 with
      | cons ra rn =>
        cases rn
        split at q1
        · rename_i ts e
          cases ra
          obtain ⟨vs, e1, r⟩ := ref_lst m1 e
          refine ⟨_, _, rfl, SqL.of e1, pk S1 H1 h1 _ _ _ f1 m1 (enum_it fun S2 H2 h2 f2 m2 st => ?_) q1⟩
          obtain ⟨ws, e2, r2⟩ := ref_lst m2 st
          exact ⟨ws, SqL.of e2, r2⟩
        · exact q1.elim
    · exact q1.elim⟩
end
end TL

namespace TL
open PySem L2
theorem ne_mem {α : Type} {i k : α} {own : List α} (hi : i ∈ own) (hk : k ∉ own) : i ≠ k := fun z => hk (z ▸ hi)
section
variable {X : Cx} {W : WX} {K : PySem.W.Frag} {S : Fz} {H : Hp} {h : Hq}
def wipeT (s : Sl) : List Nat → Sl
  | [] => s
  | v :: vs => (wipeT s vs).set v none
theorem wipeT_some {s : Sl} {i : Nat} {t : T} : ∀ {vs : List Nat}, (wipeT s vs)[i]? = some (some t) → s[i]? = some (some t) ∧ i ∉ vs
  | [], h => ⟨h, by simp⟩
  | v :: vs, h => by
    unfold wipeT at h
    by_cases c : v = i
    · subst c
      rw [List.getElem?_set] at h
      simp only [if_true] at h
      split at h
      · cases h
      · cases h
    · rw [List.getElem?_set_ne c] at h
      obtain ⟨a, b⟩ := wipeT_some h
      exact ⟨a, by simp only [List.mem_cons, not_or]; exact ⟨fun z => c z.symm, b⟩⟩
theorem wipeT_len (s : Sl) : ∀ vs : List Nat, (wipeT s vs).length = s.length
  | [] => rfl
  | v :: vs => by unfold wipeT; rw [List.length_set, wipeT_len s vs]
theorem wipe_get (σ : L2.St) {k : Nat} : ∀ {vs : List Nat}, k ∉ vs → (wipe σ vs)[k]? = σ[k]?
  | [], _ => rfl
  | v :: vs, h => by
    unfold wipe
    simp only [List.mem_cons, not_or] at h
    rw [List.getElem?_set_ne (fun z => h.1 z.symm)]
    exact wipe_get σ h.2
theorem wipe_in (σ : L2.St) {k : Nat} : ∀ {vs : List Nat}, k ∈ vs → k < σ.length → (wipe σ vs)[k]? = some none
  | v :: vs, h, hl => by
    unfold wipe
    by_cases c : v = k
    · subst c
      rw [List.getElem?_set_self (by rw [wipe_length]; exact hl)]
    · rw [List.getElem?_set_ne c]
      rcases List.mem_cons.mp h with z | z
      · exact absurd z.symm c
      · exact wipe_in σ z hl
theorem wipe_same {σ σ2 : L2.St} {vs : List Nat} (hl : σ2.length = σ.length) (e : ∀ k, k ∉ vs → σ2[k]? = σ[k]?) : wipe σ2 vs = wipe σ vs := by
  apply List.ext_getElem?
  intro k
  by_cases c : k ∈ vs
  · by_cases l : k < σ.length
    · rw [wipe_in σ c l, wipe_in σ2 c (by rw [hl]; exact l)]
    · rw [List.getElem?_eq_none_iff.mpr (by rw [wipe_length]; omega), List.getElem?_eq_none_iff.mpr (by rw [wipe_length]; omega)]
  · rw [wipe_get σ c, wipe_get σ2 c, e k c]
theorem RepS.wipe {σ : L2.St} {s : Sl} (r : RepS K S H σ s) (vs : List Nat) : RepS K S H (wipe σ vs) (wipeT s vs) := ⟨by rw [wipe_length, wipeT_len, r.len], fun i t e => by
  obtain ⟨a, b⟩ := wipeT_some e
  obtain ⟨v, h1, h2⟩ := r.at_ i t a
  exact ⟨v, by rw [wipe_get σ b]; exact h1, h2⟩⟩
def CTg (K : PySem.W.Frag) (g' : TG) (g : T → Sl → Option Sl) (own : List Nat) : Prop := ∀ S H h v t σ s s2 Q', Sim K S H h → RepS K S H σ s → Rep K S H v t → g t s = some s2 →
  (∀ σ2, RepS K S H σ2 s2 → wipe σ2 own = wipe σ own → Q' σ2 H) → g' v (wipe σ own) H Q'
def cN (i : Nat) (own : List Nat) : T → Sl → Option Sl := fun t s => some ((wipeT s own).set i (some t))
theorem ct_name {i : Nat} {own : List Nat} (hi : i ∈ own) : CTg K (L2.gName i) (cN i own) own := fun S H h v t σ s s2 Q' m rs r e q => by
  cases e
  refine q _ ((rs.wipe own).set r i) ?_
  refine wipe_same (by rw [List.length_set, wipe_length]) fun k hk => ?_
  rw [List.getElem?_set_ne (ne_mem hi hk), wipe_get σ hk]
def cN2 (i j : Nat) (own : List Nat) : T → Sl → Option Sl := fun t s => match t with
  | .tup [a, b] => some (((wipeT s own).set i (some a)).set j (some b))
  | _ => none
theorem Sim.follow (m : Sim K S H h) {p : Addr} {u : HO} {o : O} (e : h p = none) (n : ¬ S.has p) (hp : H p = some u) (r : RepO K S H u o) : Sim K S H (put h p o) where
  fr := fun a s => by rw [put_ne (neS s n)]; exact m.fr a s
  al := m.al
  dj := m.dj
  ob := fun a o' q => by
    by_cases c : a = p
    · subst c; rw [put_same] at q; cases q; exact ⟨u, hp, r⟩
    · rw [put_ne c] at q; exact m.ob a o' q
abbrev E0 : EX := fun _ _ _ => False
theorem lk0 : LkX K W S H E0 := fun _ _ _ _ _ _ _ _ _ _ _ _ z => z.elim
def LcK (fl : Bool) (ts : List T) (stay : Hq → Prop) (g : T → Sl → Option Sl) (tt : TM) (el : EM) (s : Sl) (h1 : Hq) (Q : TK) : Prop := ∃ I : Nat → List T → Hq → Prop, I 0 [] h1 ∧ ∀ i acc h, i ≤ ts.length → I i acc h → stay h ∧ match ts[i]? with
  | none => mk fl acc h Q
  | some t => acc.length < lim ∧ match g t s with
    | some s2 => tt s2 h (fun b h3 => if b = true then el s2 h3 (fun y h4 => I (i + 1) (acc ++ [y]) h4) E0 else I (i + 1) acc h3) E0
    | none => False
def eLc (fl : Bool) (src : IM) (g : T → Sl → Option Sl) (tt : TM) (el : EM) : EM := fun s h Q E => src s h (fun ts stay h1 => LcK fl ts stay g tt el s h1 Q) E
theorem lift_lc {fl : Bool} {src : IM} {g : T → Sl → Option Sl} {g' : TG} {tt : TM} {el : EM} {own : List Nat} (ct : CTg K g' g own) : ∀ σ H Q, liftE K W (eLc fl src g tt el) σ H Q → tLc (liftI K W src) g' (liftT K W0 tt) (liftE K W0 el) own σ H Q := fun σ H Q' ⟨S, h, s, Q, E, m, rs, lk, hm, pk⟩ => by
  refine ⟨S, h, s, _, E, m, rs, lk, hm, fun S1 H1 h1 J ts stay f1 m1 it q => ?_⟩
  obtain ⟨I, i0, step⟩ := q
  intro D nD
  have nS1 : ¬ S1.has D := m1.nS nD
  let Wd : Nat → Hp → Prop := fun i H2 => ∃ S2 h2 vs acc, Fut S1 H1 S2 H2 ∧ Sim K S2 H2 h2 ∧ H2 D = some (.lst vs) ∧ RepL K S2 H2 vs acc ∧ ¬ S2.has D ∧ h2 D = none ∧ I i acc h2
  refine ⟨fun i n H2 => n = ts.length - i ∧ i ≤ ts.length ∧ Wd i H2, ⟨ts.length, by simp, Nat.zero_le _, S1, h1, [], [], fut_upd nS1, m1.side nD, upd_same, .nil, nS1, m1.free nD, i0⟩, ?_⟩
  rintro i n H2 ⟨en, hi, S2, h2, vs, acc, f2, m2, hD, rD, nS2, nh2, i2⟩
  obtain ⟨st, q2⟩ := step i acc h2 hi i2
  have m2' : Sim K (TL.prot S2 D) H2 h2 := m2.prot nh2 (by rw [hD]; exact fun z => nomatch z) fun z => nS2 (.inl z)
  obtain ⟨go, stop⟩ := it (TL.prot S2 D) H2 h2 ⟨f2.sub, fun a z => f2.kp a (.inl z)⟩ m2' st
  cases e : ts[i]? with
  | none =>
    rw [e] at q2
    have hl : i = ts.length := Nat.le_antisymm hi (List.getElem?_eq_none_iff.mp e)
    refine .inl ⟨by rw [hl]; exact stop, ?_⟩
    cases fl with
    | true =>
      rw [mk_true] at q2
      have f3 : Fut S2 H2 (TL.plus S2 D) H2 := fut_plus Fut.refl
      exact pk _ H2 h2 _ _ ((f1.trans f2).trans f3) (m2.plus nh2 (by rw [hD]; exact fun z => nomatch z) fun z => nS2 (.inr z)) (.lst (.inr rfl) hD (rD.fut f3)) q2
    | false =>
      rw [mk_false] at q2
      exact pk S2 H2 _ _ _ (f1.trans f2) (m2.follow (o := .lst acc) nh2 nS2 hD ⟨vs, rfl, rD⟩) (.ref D) (q2 D nh2)
  | some t =>
    rw [e] at q2
    obtain ⟨la, q2⟩ := q2
    have hl : i < ts.length := (List.getElem?_eq_some_iff.mp e).1
    obtain ⟨g1, g2⟩ := go i t e
    refine .inr ⟨g1, Wd (i + 1), fun H' w => ⟨ts.length - (i + 1), by omega, rfl, hl, w⟩, fun x H3 y => ?_⟩
    obtain ⟨S3, f3, m3, r3⟩ := g2 x H3 y
    have u2 : Fu S H (TL.prot S2 D) H2 := ⟨fun a z => f2.sub a (f1.sub a z), fun a z => (f1.trans f2).kp a (.inl z)⟩
    have rs3 : RepS K S3 H3 σ s := rs.fu (u2.trans f3.fu)
    split at q2
    · rename_i s2 eg
      refine ct S3 H3 h2 x t σ s s2 _ m3 rs3 r3 eg fun σ2 r2 ew => ⟨ew, ?_⟩
      refine ⟨S3, h2, s2, _, E0, m3, r2, lk0, q2, fun S4 H4 h4 b f4 m4 q4 => ?_⟩
      have back : ∀ {S5 : Fz} {H5 : Hp} {h5 : Hq} {ws : List V} {acc' : List T}, Fut (TL.prot S2 D) H2 S5 H5 → Sim K S5 H5 h5 → RepL K S5 H5 ws acc' → I (i + 1) acc' h5 → Wd (i + 1) (upd H5 D (.lst ws)) := fun {S5 H5 h5 ws acc'} f5 m5 r5 q5 => by
        have pD : S5.p D := by rw [f5.pe]; exact .inr rfl
        have nD5 : ¬ S5.s D := fun z => m5.dj D z pD
        have n6 : ¬ (TL.unp S2 S5).has D := fun z => z.elim nD5 fun z => nS2 (.inr z)
        refine ⟨TL.unp S2 S5, h5, ws, acc', ⟨fun a z => f5.sub a (f2.sub a z), fun a z => ?_, f2.pe⟩, (m5.unp f5.pe).side' (m5.fr D (.inr pD)) n6, upd_same, ?_, n6, m5.fr D (.inr pD), q5⟩
        · rw [upd_ne (neS z nS1), f5.kp a (z.elim (fun w => .inl (f2.sub a w)) fun w => .inr (.inl (by rw [f2.pe]; exact w))), f2.kp a z]
        · exact r5.fu (S := S5) (S1 := TL.unp S2 S5) ⟨fun a z => z, fun a z => upd_ne (show a ≠ D from fun w => nD5 (by rw [← w]; exact z))⟩
      have old : ∀ {S5 : Fz} {H5 : Hp}, Fut (TL.prot S2 D) H2 S5 H5 → H5 D = some (.lst vs) ∧ RepL K S5 H5 vs acc := fun {S5 H5} f5 => ⟨(f5.kp D (.inr (.inr rfl))).trans hD, RepL.fu (S := S2) ⟨f5.sub, fun a z => f5.kp a (.inl z)⟩ rD⟩
      cases b with
      | true =>
        rw [if_pos rfl] at q4
        refine iteT ?_
        refine ⟨S4, h4, s2, _, E0, m4, r2.fut f4, lk0, q4, fun S5 H5 h5 v y f5 m5 r5 q5 => ?_⟩
        have f25 := (f3.trans f4).trans f5
        obtain ⟨hD5, rD5⟩ := old f25
        exact ⟨vs, hD5, lim_lt (by rw [rD.length]; exact Nat.le_of_lt la), back f25 m5 (rD5.append (.cons r5 .nil)) q5⟩
      | false =>
        rw [if_neg Bool.false_ne_true] at q4
        refine iteF ?_
        have f24 := f3.trans f4
        obtain ⟨hD4, rD4⟩ := old f24
        have w := back f24 m4 rD4 q4
        have eu : upd H4 D (.lst vs) = H4 := by
          funext a
          unfold upd
          split
          · rename_i z; rw [z, hD4]
          · rfl
        rw [eu] at w
        exact w
    · exact q2.elim
theorem j_lc (fl : Bool) {elt tg iter : Expr} {ifs : List Expr} {scope : Scope} {own : List (Str × Nat)} {pos : Pos} {src : IM} {g : T → Sl → Option Sl} {g' : TG} {tt : TM} {el : EM} (hc : X.calm = true) (hN : X.N.Nodup) (ct : CTg X.K g' g (own.map (·.2))) (hi : JI X W tg iter src) (ok : BlkOk X.N X.env.scope scope own)
    (hg : ∀ (s : Shared) (H : Hp) (C : Addr) (cl : List (Str × Addr)) (fp : List Addr), PG (X.blk s H scope (compEnvC scope cl C X.env) fp) tg g')
    (ht : ∀ (s : Shared) (H : Hp) (C : Addr) (cl : List (Str × Addr)) (fp : List Addr), PTs (X.blk s H scope (compEnvC scope cl C X.env) fp) ifs (liftT X.K W0 tt))
    (he : ∀ (s : Shared) (H : Hp) (C : Addr) (cl : List (Str × Addr)) (fp : List Addr), JE (X.blk s H scope (compEnvC scope cl C X.env) fp) W0 elt el) (hs : ∀ x, foldedSetIterable iter X.env x = pure x := by intro _; rfl) :
    JE X W (.ListComp elt [⟨tg, iter, ifs, 0⟩] scope pos) (eLc fl src g tt el) := PE.wk (pe_lc (te := liftE X.K W0 el) hc hN hi ok hg ht he hs) (lift_lc ct)
def tYes : TM := fun _ h Q _ => Q true h
theorem jts_nil : PTs X [] (liftT K W tYes) := ⟨fun pins s σ H Q I hw => pts_nil.run pins s σ H Q I (by
  obtain ⟨S, h, t, Q', E, m, rs, lk, hm, pk⟩ := hw
  exact pk S H h true Fut.refl m hm)⟩
def startT (N : Nat) (ts : List T) : Sl := ts.map some ++ List.replicate (N - ts.length) none
def Sub (h2 h1 : Hq) : Prop := ∀ a o, h2 a = some o → h1 a = some o
def dn (Q : TK) : TK := fun u h1 => ∃ h2, Sub h2 h1 ∧ Q u h2
def dnX (E : Ex → Hq → Prop) : Ex → Hq → Prop := fun x h1 => ∃ h2, Sub h2 h1 ∧ E x h2
theorem dn_self {Q : TK} {u : T} {h : Hq} (q : Q u h) : dn Q u h := ⟨h, fun _ _ e => e, q⟩
theorem sub_put {h : Hq} {p : Addr} {o : O} (e : h p = none) : Sub h (put h p o) := fun a u q => by
  rw [put_ne (fun z => by rw [z, e] at q; cases q)]; exact q
theorem Sub.put {h1 h2 : Hq} (s : Sub h2 h1) {p : Addr} {o : O} : Sub (TL.put h2 p o) (TL.put h1 p o) := fun a u q => by
  by_cases c : a = p
  · subst c; rw [put_same] at q ⊢; exact q
  · rw [put_ne c] at q ⊢; exact s a u q
def ends (Q : TK) (E : Ex → Hq → Prop) : En := { nx := fun _ h => dn Q .non h, rt := dn Q, ex := fun x _ h => dnX E x h }
theorem fn_ok {CX : CXT} {P : Program} {w : World} {mg : Str → Option Value} {base : Heap} {x qual : Str} {st : Stmt} {f : Addr} {fd : FuncData} {N ps : List Str} {k : Nat} {c : Con} {B : SM} (F : Fun K x qual st f fd) (sc : FnScope N ps (defScope st)) (hl : ps.length ≤ N.length)
    (J : ∀ (cdv : Value) (A : Around) (outer : List Env) (s : Shared) (H : Hp) (E : XK), Room k (A.deeper (PyProof.Rows.envOfC qual (defScope st) s.heap.objs.size f cdv)) →
      JSs (cxOf CX P w K mg base N qual (defScope st) f cdv A outer s H E) (fun cls d _ H => E cls d H) (defBody st) B)
    (pl : ∀ ts h Q E, ts.length = ps.length → c ts h Q E → B (ends Q E) (startT N.length ts) h) : FnOk P w K mg base CX (k + 1) f fd ps (liftSp K ps.length c) := by
  refine F.okC sc (fun vs H Q E ⟨S, h, ts, Q', E', m, r, l, _⟩ => r.length.trans l) fun cdv A outer s H vs Q E hr ⟨S, h, ts, Q', E', m, r, l, q, pk, px⟩ => ⟨_, J cdv A outer s H E hr, ?_⟩
  refine ⟨S, h, startT N.length ts, ends Q' E', m, ?_, ?_, pl ts h Q' E' l q⟩
  · have := RepS.start (N := N) r (by rw [r.length, l]; exact hl)
    exact this
  · exact { nx := fun S1 H1 h1 σ1 s1 f1 m1 r1 ⟨h2, z, q1⟩ => pk S1 H1 h2 _ _ f1 (m1.sub z) .non q1, rt := fun S1 H1 h1 v u f1 m1 r1 ⟨h2, z, q1⟩ => pk S1 H1 h2 _ _ f1 (m1.sub z) r1 q1, bk := fun _ _ _ _ _ _ _ _ z => z.elim, ct := fun _ _ _ _ _ _ _ _ z => z.elim,
            ex := fun S1 H1 h1 σ1 s1 x cls d f1 m1 r1 rx ⟨h2, z, q1⟩ => px S1 H1 h2 x cls d f1 (m1.sub z) rx q1 }
theorem fn_wk {P : Program} {w : World} {mg : Str → Option Value} {base : Heap} {CX : CXT} {f : Addr} {fd : FuncData} {ps : List Str} {k : Nat} {sp sp' : Sp} (F : FnOk P w K mg base CX k f fd ps sp) (hs : ∀ vs H Q E, sp' vs H Q E → sp vs H Q E) : FnOk P w K mg base CX k f fd ps sp' :=
  ⟨fun vs H Q E q => F.len vs H Q E (hs vs H Q E q), fun A outer s H args us vs Q E hr e0 b v q => F.run A outer s H args us vs Q E hr e0 b v (hs vs H Q E q)⟩
end
end TL

namespace TL
open PySem L2
inductive Kd where | non | bl | int | str | tup | lst
  deriving DecidableEq
def Kd.nm : Kd → String
  | .non => "NoneType" | .bl => "bool" | .int => "int" | .str => "str" | .tup => "tuple" | .lst => "list"
def kdOf (h : Hq) : T → Option Kd
  | .non => some .non
  | .bl _ => some .bl
  | .int _ => some .int
  | .str _ => some .str
  | .tup _ => some .tup
  | .lst _ => some .lst
  | .ref a => match h a with
    | some (.lst _) => some .lst
    | _ => none
  | _ => none
def isK (k c : Kd) : Bool := decide (k = c) || (decide (k = .bl) && decide (c = .int))
def kdN (n : String) : Option Kd := if n = "int" then some .int else if n = "bool" then some .bl else if n = "str" then some .str else if n = "tuple" then some .tup else if n = "list" then some .lst else none
section
variable {X : Cx} {W : WX} {K : PySem.W.Frag} {S : Fz} {H : Hp} {h : Hq}
def oIsi : RLT := fun xs h Q => match xs with
  | [x, .ty n] => match kdOf h x, kdN n with
    | some k, some c => Q (.bl (isK k c)) h
    | _, _ => False
  | _ => False
def poolOk (a b : Int) : Prop := 0 ≤ a ∧ 0 ≤ b ∧ b < 2147483647
theorem Sim.unpool (m : Sim K S H h) {p : Addr} (e : h p = some .pool) : ∃ a b, poolOk a b ∧ Sim K S H (put h p (.lst [.int a, .int b])) := by
  obtain ⟨u, e1, a, b, e2, o1, o2, o3⟩ := m.ob p _ e
  refine ⟨a, b, ⟨o1, o2, o3⟩, ⟨fun c s => ?_, m.al, m.dj, fun c o q => ?_⟩⟩
  · rw [put_ne (neS s (m.nS' e))]; exact m.fr c s
  · by_cases z : c = p
    · subst z; rw [put_same] at q; cases q; exact ⟨u, e1, _, e2, .cons (.int a) (.cons (.int b) .nil)⟩
    · rw [put_ne z] at q; exact m.ob c o q
theorem Sim.repool {p : Addr} {a b : Int} (m : Sim K S H (put h p (.lst [.int a, .int b]))) (o : poolOk a b) : Sim K S H (put h p .pool) := by
  refine ⟨fun c s => ?_, m.al, m.dj, fun c o' q => ?_⟩
  · have z := m.fr c s
    by_cases y : c = p
    · subst y; rw [put_same] at z; cases z
    · rw [put_ne y] at z ⊢; exact z
  · by_cases z : c = p
    · subst z
      rw [put_same] at q; cases q
      obtain ⟨u, e1, vs, e2, r⟩ := m.ob c (.lst [.int a, .int b]) put_same
      have := RepL.ints (ns := [a, b]) r
      exact ⟨u, e1, a, b, by rw [e2, this]; rfl, o⟩
    · rw [put_ne z] at q
      exact m.ob c o' (by rw [put_ne z]; exact q)
def CxHand : Con := fun ts h Q _ => ∃ ns k, ts = [.scr ns, .int k] ∧ 0 ≤ k ∧ k ≤ 63 ∧ ns.length ≤ 63 ∧ ∀ a b, poolOk a b → ∀ p, h p = none → Q (.ref p) (put h p (.lst [.int a, .int b]))
def CHand : Con := fun ts h Q _ => ∃ ns k, ts = [.scr ns, .int k] ∧ 0 ≤ k ∧ k ≤ 63 ∧ ns.length ≤ 63 ∧ ∀ p, h p = none → Q (.ref p) (put h p .pool)
theorem hand_wk : ∀ vs H Q E, liftSp K 2 CHand vs H Q E → liftSp K 2 CxHand vs H Q E := fun vs H Q' E' ⟨S, h, ts, Q, E, m, r, l, ⟨ns, k, et, k0, k1, hn, q⟩, pk, px⟩ =>
  ⟨S, h, ts, fun u h1 => ∃ p a b, poolOk a b ∧ h p = none ∧ u = .ref p ∧ h1 = put h p (.lst [.int a, .int b]), E, m, r, l, ⟨ns, k, et, k0, k1, hn, fun a b o p hp => ⟨p, a, b, o, hp, rfl, rfl⟩⟩, fun S1 H1 h1 v u f1 m1 r1 ⟨p, a, b, o, hp, eu, eh⟩ => by
    subst eu eh
    exact pk S1 H1 _ v _ f1 (m1.repool o) r1 (q p hp), px⟩
def CxDraw : Con := fun ts h Q _ => ∃ p n a b, ts = [.ref p, .int n] ∧ 0 < n ∧ n < 2 ^ 250 ∧ h p = some (.lst [.int a, .int b]) ∧ poolOk a b ∧ ∀ r a' b', 0 ≤ r → r < n → poolOk a' b' → Q (.int r) (put h p (.lst [.int a', .int b']))
def CDraw : Con := fun ts h Q _ => ∃ p n, ts = [.ref p, .int n] ∧ 0 < n ∧ n < 2 ^ 250 ∧ h p = some .pool ∧ ∀ r, 0 ≤ r → r < n → Q (.int r) h
theorem draw_wk : ∀ vs H Q E, liftSp K 2 CDraw vs H Q E → liftSp K 2 CxDraw vs H Q E := fun vs H Q' E' ⟨S, h, ts, Q, E, m, r, l, ⟨p, n, et, n0, n1, hp, q⟩, pk, px⟩ => by
  obtain ⟨a, b, o, m'⟩ := m.unpool hp
  refine ⟨S, _, ts, fun u h1 => ∃ r a' b', 0 ≤ r ∧ r < n ∧ poolOk a' b' ∧ u = .int r ∧ h1 = put h p (.lst [.int a', .int b']), fun _ _ => False, m', r, l, ⟨p, n, a, b, et, n0, n1, put_same, o, fun r a' b' r0 r1 o' => ⟨r, a', b', r0, r1, o', rfl, by rw [put_put]⟩⟩, fun S1 H1 h1 v u f1 m1 r1 ⟨r, a', b', r0, r1', o', eu, eh⟩ => ?_, fun _ _ _ _ _ _ _ _ _ z => z.elim⟩
  subst eu eh
  have m2 := m1.repool o'
  rw [put_id hp] at m2
  exact pk S1 H1 _ v _ f1 m2 r1 (q r r0 r1')
theorem law_start {c : Con} {H : Hp} {a : Addr} {ns : List Int} (hS : SqL K H a (ns.map V.int)) (hc : c [.scr ns] (fun _ => none) (fun u _ => u = .bl true) fun _ _ => False) : liftSp K 1 c [.ref a] H (fun v _ => v = .bl true) fun _ _ _ => False := by
  rcases hS with hS | hS
  · have ha : H a ≠ none := by rcases hS with z | ⟨o, z⟩ <;> (rw [z]; exact fun y => nomatch y)
    exact ⟨⟨fun b => b = a, fun _ => False⟩, fun _ => none, [.scr ns], _, _, ⟨fun _ _ => rfl, fun b s => s.elim (fun z => by rw [z]; exact ha) False.elim, fun _ _ z => z, fun _ _ z => nomatch z⟩, .cons (.scr rfl hS) .nil, rfl, hc, fun S1 H1 h1 v u f1 m1 r1 e => by
      subst e; cases r1; rfl, fun _ _ _ _ _ _ _ _ _ z => z.elim⟩
  · exact ⟨⟨fun b => False, fun _ => False⟩, fun _ => none, [.scr ns], _, _, ⟨fun _ _ => rfl, fun b s => s.elim False.elim False.elim, fun _ z => z.elim, fun _ _ z => nomatch z⟩, .cons (.scrK hS) .nil, rfl, hc, fun S1 H1 h1 v u f1 m1 r1 e => by
      subst e; cases r1; rfl, fun _ _ _ _ _ _ _ _ _ z => z.elim⟩
theorem no_law {P : Program} {w : World} {H : Hp} {s : Shared} {e : Value} {s' : Shared} (c : L2.CX P w [] H s (fun _ _ _ => False) e s') : False := by
  obtain ⟨_, _, _, _, _, _, _, _, _, _, _, _, z⟩ := c
  exact z
end
end TL

namespace TL
open PySem L2
theorem atI_nat' {α : Type} {xs : List α} {n : Nat} {x : α} (h : xs[n]? = some x) : atI xs (n : Int) = some x := by
  unfold atI ixN
  have hl : n < xs.length := (List.getElem?_eq_some_iff.mp h).1
  rw [if_pos (by omega), if_pos (by omega)]
  simpa using h
theorem atI_0 {α : Type} {x : α} {xs : List α} : atI (x :: xs) 0 = some x := atI_nat' (n := 0) rfl
theorem atI_1 {α : Type} {a x : α} {xs : List α} : atI (a :: x :: xs) 1 = some x := atI_nat' (n := 1) rfl
theorem atI_2 {α : Type} {a b x : α} {xs : List α} : atI (a :: b :: x :: xs) 2 = some x := atI_nat' (n := 2) rfl
theorem atI_3 {α : Type} {a b c x : α} {xs : List α} : atI (a :: b :: c :: x :: xs) 3 = some x := atI_nat' (n := 3) rfl
theorem atI_4 {α : Type} {a b c d x : α} {xs : List α} : atI (a :: b :: c :: d :: x :: xs) 4 = some x := atI_nat' (n := 4) rfl
theorem atI_5 {α : Type} {a b c d e x : α} {xs : List α} : atI (a :: b :: c :: d :: e :: x :: xs) 5 = some x := atI_nat' (n := 5) rfl
theorem atI_6 {α : Type} {a b c d e f x : α} {xs : List α} : atI (a :: b :: c :: d :: e :: f :: x :: xs) 6 = some x := atI_nat' (n := 6) rfl
theorem atI_7 {α : Type} {a b c d e f g x : α} {xs : List α} : atI (a :: b :: c :: d :: e :: f :: g :: x :: xs) 7 = some x := atI_nat' (n := 7) rfl
theorem atI_8 {α : Type} {a b c d e f g h x : α} {xs : List α} : atI (a :: b :: c :: d :: e :: f :: g :: h :: x :: xs) 8 = some x := atI_nat' (n := 8) rfl
theorem atI_m1 {α : Type} {x : α} {xs : List α} : atI (xs ++ [x]) (-1) = some x := by
  unfold atI ixN
  rw [if_neg (by omega), if_pos (by simp; omega)]
  have e : (-1 + (((xs ++ [x]).length : Nat) : Int)).toNat = xs.length := by simp; omega
  show (xs ++ [x])[(-1 + (((xs ++ [x]).length : Nat) : Int)).toNat]? = some x
  rw [e]
  simp
theorem ixN_0 {n : Nat} : ixN (n + 1) 0 = some 0 := by unfold ixN; rw [if_pos (by omega), if_pos (by omega)]; rfl
theorem ixN_1 {n : Nat} : ixN (n + 1 + 1) 1 = some 1 := by unfold ixN; rw [if_pos (by omega), if_pos (by omega)]; rfl
theorem kdN_int : kdN "int" = some .int := by decide
theorem kdN_bool : kdN "bool" = some .bl := by decide
theorem kdN_str : kdN "str" = some .str := by decide
theorem kdN_list : kdN "list" = some .lst := by decide
theorem kdN_tuple : kdN "tuple" = some .tup := by decide
theorem view_int {h : Hq} {i : Int} : view h (.int i) = .int i := rfl
theorem view_non {h : Hq} : view h .non = .non := rfl
theorem dep_int {i : Int} : depth? (.int i) = true := rfl
theorem dep_non : depth? .non = true := rfl

def dat : Nat → T → Bool
  | 0, _ => false
  | _ + 1, .non => true
  | _ + 1, .bl _ => true
  | _ + 1, .int _ => true
  | _ + 1, .str x => PyData.strOk x
  | n + 1, .tup ts => ts.all (dat n)
  | n + 1, .lst ts => ts.all (dat n)
  | _ + 1, _ => false
theorem dat_toDs {n : Nat} (ih : ∀ t, dat n t = true → ∃ d, toD t = some d ∧ d.depth ≤ n) : ∀ ts : List T, ts.all (dat n) = true → ∃ ds, toDs ts = some ds ∧ PyData.depthAll ds ≤ n
  | [], _ => ⟨[], rfl, Nat.zero_le _⟩
  | t :: ts, h => by
    rw [List.all_cons, Bool.and_eq_true] at h
    obtain ⟨d, e1, n1⟩ := ih t h.1
    obtain ⟨ds, e2, n2⟩ := dat_toDs ih ts h.2
    refine ⟨d :: ds, by unfold toDs; rw [e1, e2], ?_⟩
    unfold PyData.depthAll
    omega
theorem dat_toD : ∀ (n : Nat) (t : T), dat n t = true → ∃ d, toD t = some d ∧ d.depth ≤ n
  | 0, _, h => by cases h
  | n + 1, .non, _ => ⟨_, rfl, by unfold PyData.depth; omega⟩
  | n + 1, .bl _, _ => ⟨_, rfl, by unfold PyData.depth; omega⟩
  | n + 1, .int _, _ => ⟨_, rfl, by unfold PyData.depth; omega⟩
  | n + 1, .str x, h => ⟨.str x, by unfold toD; exact if_pos h, by unfold PyData.depth; omega⟩
  | n + 1, .tup ts, h => by
    obtain ⟨ds, e, k⟩ := dat_toDs (dat_toD n) ts h
    exact ⟨.tuple ds, by unfold toD; rw [e]; rfl, by unfold PyData.depth; omega⟩
  | n + 1, .lst ts, h => by
    obtain ⟨ds, e, k⟩ := dat_toDs (dat_toD n) ts h
    exact ⟨.list ds, by unfold toD; rw [e]; rfl, by unfold PyData.depth; omega⟩
  | n + 1, .ins _ _, h => by cases h
  | n + 1, .ref _, h => by cases h
  | n + 1, .ty _, h => by cases h
  | n + 1, .scr _, h => by cases h
theorem dep {n : Nat} {t : T} (h : dat n t = true) (hn : n ≤ 64 := by decide) : depth? t = true := by
  obtain ⟨d, e, k⟩ := dat_toD n t h
  unfold depth?
  rw [e]
  exact decide_eq_true (by omega)
def cln : Nat → T → Bool
  | 0, _ => false
  | _ + 1, .non => true
  | _ + 1, .int _ => true
  | _ + 1, .str x => PyData.strOk x
  | n + 1, .tup ts => ts.all (cln n)
  | n + 1, .lst ts => ts.all (cln n)
  | _ + 1, _ => false
theorem cln_dat : ∀ (n : Nat) (t : T), cln n t = true → dat n t = true
  | 0, _, h => by cases h
  | n + 1, .non, _ => rfl
  | n + 1, .int _, _ => rfl
  | n + 1, .str x, h => h
  | n + 1, .tup ts, h => by
    unfold cln at h; unfold dat
    rw [List.all_eq_true] at *
    exact fun x hx => cln_dat n x (h x hx)
  | n + 1, .lst ts, h => by
    unfold cln at h; unfold dat
    rw [List.all_eq_true] at *
    exact fun x hx => cln_dat n x (h x hx)
  | n + 1, .bl _, h => by cases h
  | n + 1, .ins _ _, h => by cases h
  | n + 1, .ref _, h => by cases h
  | n + 1, .ty _, h => by cases h
  | n + 1, .scr _, h => by cases h
def eqTs : List T → List T → Bool
  | [], [] => true
  | x :: xs, y :: ys => eqT x y && eqTs xs ys
  | _, _ => false
theorem eqTs_ok : ∀ {xs ys : List T} {ds es : List PyData}, toDs xs = some ds → toDs ys = some es → PyData.eqvAll ds es = eqTs xs ys
  | [], [], _, _, e1, e2 => by cases e1; cases e2; rfl
  | [], y :: ys, _, _, e1, e2 => by
    cases e1
    unfold toDs at e2
    split at e2
    · cases e2; rfl
    · cases e2
  | x :: xs, [], _, _, e1, e2 => by
    cases e2
    unfold toDs at e1
    split at e1
    · cases e1; rfl
    · cases e1
  | x :: xs, y :: ys, _, _, e1, e2 => by
    unfold toDs at e1 e2
    split at e1
    · rename_i d ds a1 a2
      split at e2
      · rename_i e es b1 b2
        cases e1; cases e2
        show (PyData.eqv d e && PyData.eqvAll ds es) = (eqT x y && eqTs xs ys)
        rw [eqTs_ok a2 b2]
        unfold eqT
        rw [a1, b1]
      · cases e2
    · cases e1
theorem eqT_lst {n m : Nat} {xs ys : List T} (h1 : dat n (.lst xs) = true) (h2 : dat m (.lst ys) = true) : eqT (.lst xs) (.lst ys) = eqTs xs ys := by
  obtain ⟨d, e1, _⟩ := dat_toD _ _ h1
  obtain ⟨e, e2, _⟩ := dat_toD _ _ h2
  unfold eqT
  rw [e1, e2]
  unfold toD at e1 e2
  cases a : toDs xs with
  | none => rw [a] at e1; cases e1
  | some ds =>
    cases b : toDs ys with
    | none => rw [b] at e2; cases e2
    | some es =>
      rw [a] at e1; rw [b] at e2
      cases e1; cases e2
      exact eqTs_ok a b
theorem eqT_tup {n m : Nat} {xs ys : List T} (h1 : dat n (.tup xs) = true) (h2 : dat m (.tup ys) = true) : eqT (.tup xs) (.tup ys) = eqTs xs ys := by
  obtain ⟨d, e1, _⟩ := dat_toD _ _ h1
  obtain ⟨e, e2, _⟩ := dat_toD _ _ h2
  unfold eqT
  rw [e1, e2]
  unfold toD at e1 e2
  cases a : toDs xs with
  | none => rw [a] at e1; cases e1
  | some ds =>
    cases b : toDs ys with
    | none => rw [b] at e2; cases e2
    | some es =>
      rw [a] at e1; rw [b] at e2
      cases e1; cases e2
      exact eqTs_ok a b
theorem eqT_int (i j : Int) : eqT (.int i) (.int j) = decide (i = j) := by
  show (i == j) = _
  rw [Bool.beq_eq_decide_eq]
theorem eqT_nn : eqT .non .non = true := rfl
theorem eqT_in (i : Int) : eqT (.int i) .non = false := rfl
theorem eqT_ni (i : Int) : eqT .non (.int i) = false := rfl
theorem eqT_str {x y : Str} (h1 : PyData.strOk x = true) (h2 : PyData.strOk y = true) : eqT (.str x) (.str y) = decide (x = y) := by
  unfold eqT toD
  rw [if_pos h1, if_pos h2]
  show (x == y) = _
  rw [Bool.beq_eq_decide_eq]
mutual
theorem eqT_iff : ∀ (n : Nat) (x y : T), cln n x = true → cln n y = true → (eqT x y = true ↔ x = y)
  | 0, _, _, h, _ => by cases h
  | n + 1, x, y, h1, h2 => by
    have no : ∀ {a b : T}, eqT a b = false → a ≠ b → (eqT a b = true ↔ a = b) := fun e d => ⟨fun q => (by rw [e] at q; cases q), fun q => absurd q d⟩
    have kind : ∀ {k : PyData} {a b : T}, toD a = some k → (∀ e, toD b = some e → PyData.eqv k e = false) → eqT a b = false := fun {k a b} e f => by
      unfold eqT
      rw [e]
      split
      · rename_i d e' q1 q2; cases q1; exact f _ q2
      · rfl
    have lstD : ∀ {ts : List T} {e : PyData}, toD (.lst ts) = some e → ∃ es, e = .list es := fun {ts e} q => by
      unfold toD at q
      cases a : toDs ts with
      | none => rw [a] at q; cases q
      | some ds => rw [a] at q; cases q; exact ⟨ds, rfl⟩
    have tupD : ∀ {ts : List T} {e : PyData}, toD (.tup ts) = some e → ∃ es, e = .tuple es := fun {ts e} q => by
      unfold toD at q
      cases a : toDs ts with
      | none => rw [a] at q; cases q
      | some ds => rw [a] at q; cases q; exact ⟨ds, rfl⟩
    have strD : ∀ {z : Str} {e : PyData}, toD (.str z) = some e → e = .str z := fun {z e} q => by
      unfold toD at q
      split at q
      · cases q; rfl
      · cases q
    obtain ⟨dx, ex, _⟩ := dat_toD _ _ (cln_dat _ _ h1)
    cases x with
    | non => cases y with
      | non => exact ⟨fun _ => rfl, fun _ => rfl⟩
      | int j => exact no rfl (fun q => nomatch q)
      | str z => exact no (kind rfl fun e q => by rw [strD q]; rfl) (fun q => nomatch q)
      | tup ts => exact no (kind rfl fun e q => by obtain ⟨es, rfl⟩ := tupD q; rfl) (fun q => nomatch q)
      | lst ts => exact no (kind rfl fun e q => by obtain ⟨es, rfl⟩ := lstD q; rfl) (fun q => nomatch q)
      | bl _ => cases h2
      | ins _ _ => cases h2
      | ref _ => cases h2
      | ty _ => cases h2
      | scr _ => cases h2
      | exc _ _ _ _ => cases h2
      | xob _ _ => cases h2
    | int i => cases y with
      | non => exact no rfl (fun q => nomatch q)
      | int j => rw [eqT_int]; exact ⟨fun q => (by rw [of_decide_eq_true q]), fun q => (by cases q; exact decide_eq_true rfl)⟩
      | str z => exact no (kind rfl fun e q => by rw [strD q]; rfl) (fun q => nomatch q)
      | tup ts => exact no (kind rfl fun e q => by obtain ⟨es, rfl⟩ := tupD q; rfl) (fun q => nomatch q)
      | lst ts => exact no (kind rfl fun e q => by obtain ⟨es, rfl⟩ := lstD q; rfl) (fun q => nomatch q)
      | bl _ => cases h2
      | ins _ _ => cases h2
      | ref _ => cases h2
      | ty _ => cases h2
      | scr _ => cases h2
      | exc _ _ _ _ => cases h2
      | xob _ _ => cases h2
    | str w =>
      rw [strD ex] at ex
      cases y with
      | non => exact no (kind ex fun e q => by cases q; rfl) (fun q => nomatch q)
      | int j => exact no (kind ex fun e q => by cases q; rfl) (fun q => nomatch q)
      | str z => rw [eqT_str h1 h2]; exact ⟨fun q => (by rw [of_decide_eq_true q]), fun q => (by cases q; exact decide_eq_true rfl)⟩
      | tup ts => exact no (kind ex fun e q => by obtain ⟨es, rfl⟩ := tupD q; rfl) (fun q => nomatch q)
      | lst ts => exact no (kind ex fun e q => by obtain ⟨es, rfl⟩ := lstD q; rfl) (fun q => nomatch q)
      | bl _ => cases h2
      | ins _ _ => cases h2
      | ref _ => cases h2
      | ty _ => cases h2
      | scr _ => cases h2
      | exc _ _ _ _ => cases h2
      | xob _ _ => cases h2
    | tup us =>
      obtain ⟨ds, rfl⟩ := tupD ex
      cases y with
      | non => exact no (kind ex fun e q => by cases q; rfl) (fun q => nomatch q)
      | int j => exact no (kind ex fun e q => by cases q; rfl) (fun q => nomatch q)
      | str z => exact no (kind ex fun e q => by rw [strD q]; rfl) (fun q => nomatch q)
      | tup ts =>
        rw [eqT_tup (cln_dat _ _ h1) (cln_dat _ _ h2), eqTs_iff n us ts h1 h2]
        exact ⟨fun q => by rw [q], fun q => by cases q; rfl⟩
      | lst ts => exact no (kind ex fun e q => by obtain ⟨es, rfl⟩ := lstD q; rfl) (fun q => nomatch q)
      | bl _ => cases h2
      | ins _ _ => cases h2
      | ref _ => cases h2
      | ty _ => cases h2
      | scr _ => cases h2
      | exc _ _ _ _ => cases h2
      | xob _ _ => cases h2
    | lst us =>
      obtain ⟨ds, rfl⟩ := lstD ex
      cases y with
      | non => exact no (kind ex fun e q => by cases q; rfl) (fun q => nomatch q)
      | int j => exact no (kind ex fun e q => by cases q; rfl) (fun q => nomatch q)
      | str z => exact no (kind ex fun e q => by rw [strD q]; rfl) (fun q => nomatch q)
      | tup ts => exact no (kind ex fun e q => by obtain ⟨es, rfl⟩ := tupD q; rfl) (fun q => nomatch q)
      | lst ts =>
        rw [eqT_lst (cln_dat _ _ h1) (cln_dat _ _ h2), eqTs_iff n us ts h1 h2]
        exact ⟨fun q => by rw [q], fun q => by cases q; rfl⟩
      | bl _ => cases h2
      | ins _ _ => cases h2
      | ref _ => cases h2
      | ty _ => cases h2
      | scr _ => cases h2
      | exc _ _ _ _ => cases h2
      | xob _ _ => cases h2
    | bl _ => cases h1
    | ins _ _ => cases h1
    | ref _ => cases h1
    | ty _ => cases h1
    | scr _ => cases h1
    | exc _ _ _ _ => cases h1
    | xob _ _ => cases h1
theorem eqTs_iff : ∀ (n : Nat) (xs ys : List T), xs.all (cln n) = true → ys.all (cln n) = true → (eqTs xs ys = true ↔ xs = ys)
  | n, [], [], _, _ => ⟨fun _ => rfl, fun _ => rfl⟩
  | n, [], y :: ys, _, _ => ⟨fun q => (Bool.noConfusion q), fun q => nomatch q⟩
  | n, x :: xs, [], _, _ => ⟨fun q => (Bool.noConfusion q), fun q => nomatch q⟩
  | n, x :: xs, y :: ys, h1, h2 => by
    rw [List.all_cons, Bool.and_eq_true] at h1 h2
    show (eqT x y && eqTs xs ys) = true ↔ _
    rw [Bool.and_eq_true, eqT_iff n x y h1.1 h2.1, eqTs_iff n xs ys h1.2 h2.2]
    exact ⟨fun q => by rw [q.1, q.2], fun q => by cases q; exact ⟨rfl, rfl⟩⟩
end
theorem rng_at {lo : Int} {n i : Nat} {t : T} (e : (rng lo n)[i]? = some t) : i < n ∧ t = .int (lo + i) := by
  unfold rng at e
  rw [List.getElem?_map] at e
  by_cases c : i < n
  · rw [List.getElem?_range c] at e; cases e; exact ⟨c, rfl⟩
  · rw [List.getElem?_eq_none_iff.mpr (by simp; omega)] at e; cases e
theorem rng_len {lo : Int} {n : Nat} : (rng lo n).length = n := by unfold rng; simp
theorem forK_go {ts : List T} {stay : Hq → Prop} {g : GM} {b : SM} {D : En} {s : Sl} {h : Hq} (I : Nat → SK) (h0 : I 0 s h)
    (hend : ∀ s h, I ts.length s h → stay h ∧ D.nx s h) (hstep : ∀ i t s h, ts[i]? = some t → I i s h → stay h ∧ g t s h (fun s2 h2 => b { D with nx := I (i + 1), ct := I (i + 1), bk := D.nx } s2 h2) D.ex) : ForK ts stay g b D s h := by
  refine ⟨I, h0, fun i s h hi q => ?_⟩
  cases e : ts[i]? with
  | none =>
    have : i = ts.length := Nat.le_antisymm hi (List.getElem?_eq_none_iff.mp e)
    subst this
    exact hend s h q
  | some t => exact hstep i t s h e q
theorem lcK_fA {α : Type} {fl : Bool} {enc : α → T} {xs : List α} {stay : Hq → Prop} {g : T → Sl → Option Sl} {tt : TM} {el : EM} {s : Sl} {h : Hq} {Q : TK} (f : α → Option T) (hst : stay h) (hl : xs.length ≤ 1000000)
    (hs : ∀ x ∈ xs, ∀ R : Option T → Hq → Prop, R (f x) h → match g (enc x) s with
      | some s2 => tt s2 h (fun b h3 => if b = true then el s2 h3 (fun y h4 => R (some y) h4) E0 else R none h3) E0
      | none => False) (hQ : mk fl (xs.filterMap f) h Q) : LcK fl (xs.map enc) stay g tt el s h Q := by
  refine ⟨fun i acc h' => acc = (xs.take i).filterMap f ∧ h' = h, ⟨by simp, rfl⟩, ?_⟩
  rintro i acc h' hi ⟨rfl, rfl⟩
  refine ⟨hst, ?_⟩
  cases e : xs[i]? with
  | none =>
    have : xs.take i = xs := List.take_of_length_le (List.getElem?_eq_none_iff.mp e)
    rw [List.getElem?_map, e, this]
    exact hQ
  | some x =>
    have hm : x ∈ xs := List.mem_of_getElem? e
    have hi' : i < xs.length := (List.getElem?_eq_some_iff.mp e).1
    rw [List.getElem?_map, e]
    refine ⟨?_, ?_⟩
    · have h1 := List.length_filterMap_le f (xs.take i)
      have h2 : (xs.take i).length ≤ i := by rw [List.length_take]; omega
      show _ < 1000000
      omega
    · have tk : (xs.take (i + 1)).filterMap f = (xs.take i).filterMap f ++ (f x).toList := by
        rw [List.take_add_one, e, List.filterMap_append]
        cases z : f x <;> simp [z]
      have q2 := hs x hm (fun o h4 => (xs.take i).filterMap f ++ o.toList = (xs.take (i + 1)).filterMap f ∧ h4 = h') ⟨tk.symm, rfl⟩
      simp only [Option.toList_some, Option.toList_none, List.append_nil] at q2
      exact q2
theorem lcK_mA {α : Type} {fl : Bool} {enc : α → T} {xs : List α} {stay : Hq → Prop} {g : T → Sl → Option Sl} {el : EM} {s : Sl} {h : Hq} {Q : TK} (f : α → T) (hst : stay h) (hl : xs.length ≤ 1000000)
    (hs : ∀ x ∈ xs, ∀ R : TK, R (f x) h → match g (enc x) s with
      | some s2 => el s2 h R E0
      | none => False) (hQ : mk fl (xs.map f) h Q) : LcK fl (xs.map enc) stay g tYes el s h Q := by
  refine lcK_fA (fun t => some (f t)) hst hl (fun t ht R r => ?_) (by rw [List.filterMap_eq_map']; exact hQ)
  have q := hs t ht (fun y h4 => R (some y) h4) r
  split at q
  · exact iteT (B := R none h) q
  · exact q.elim
end TL

namespace TL
open PySem L2

section
variable {K : PySem.W.Frag} {S : Fz} {H : Hp}
theorem RepF.look : ∀ {fs : List (Str × V)} {gs : List (Str × T)} {f : Str} {t : T}, RepF K S H fs gs → gs.lookup f = some t → ∃ v, fs.lookup f = some v ∧ Rep K S H v t
  | _, _, _, _, .nil, e => by cases e
  | _, _, f, t, .cons (f := g) (v := v) (vs := vs) (t := u) (ts := ts) r q, e => by
    rw [List.lookup_cons] at e ⊢
    cases z : f == g with
    | true => rw [z] at e; cases e; exact ⟨v, rfl, r⟩
    | false => rw [z] at e; exact RepF.look q e
end

def spInit (C : Addr) (f : Str) : Sp := fun vs H Q _ => ∃ a y, vs = [.ref a, y] ∧ H a = some (exo a C none) ∧ ∀ dx, H dx = none → dx ≠ a → Q .non (upd (upd H dx (exd dx [(f, y)])) a (exo a C (some dx)))
theorem init_ok {P : Program} {w : World} {K : PySem.W.Frag} {mg : Str → Option Value} {base : Heap} {qual : Str} {st : Stmt} {fI C : Addr} {fd : FuncData} {y f : Str} {p1 p2 p3 p4 : Pos} (F : Fun K "__init__" qual st fI fd) (sc : FnScope ["self", y] ["self", y] (defScope st)) (T : OexC K C) (hno : PySem.W.findIn K (.ref C) f = some none)
    (hb : defBody st = [.Assign [.Attribute (.Name "self" p1) f p2] (.Name y p3) p4])
    (h0 : Vis (defScope st) "self") (h1 : Vis (defScope st) y) (hd : (y == ("__debug__" : Str)) = false) (hcd : (y == ("__classdict__" : Str)) = false)
    (hs : ∀ env, env.scope = defScope st → swapsWith (.Name y p3) (some (.Attribute (.Name "self" p1) f p2)) p4.line env = pure false) : FnOk P w K mg base (L2.CX P w) 1 fI fd ["self", y] (spInit C f) := by
  refine F.okX (k := 0) sc (fun vs H Q E ⟨a, v, e, _⟩ => by rw [e]; rfl) fun cdv A outer s H vs Q E hr ⟨a, v, e, ha, q⟩ => ⟨_, by rw [hb]; exact pss_one (ps_ost (pe_var (i := 0) rfl h0) (pe_var (i := 1) rfl h1 hd hcd) (hs _ rfl)), ?_⟩
  subst e
  refine ⟨v, rfl, .ref a, rfl, a, C, rfl, T, hno, .inl ⟨ha, fun dx n ne => q dx n ne⟩⟩

def sRaise (C : Addr) (f : Str) (a : AM) : SM := fun D s h => a s h (fun ts h1 => match ts with
  | [t] => D.ex ⟨.ref C, [(f, t)]⟩ s h1
  | _ => False) D.ex
section
variable {X : Cx} {W : WX}
theorem noPass {P : Program} {w : World} : Passes (L2.CX P w) X (fun _ _ _ => False) := fun pins σ H s e s' I c => by
  obtain ⟨_, _, _, _, _, _, _, _, _, _, _, _, z⟩ := c
  exact z.elim
variable {a : Addr} {oe : Obj} {cls : Value} {d : Option Addr} {pn : List (Addr × Obj)}
end
end TL

namespace TL
open PySem L2
def putT (f : Str) (v : T) : List (Str × T) → List (Str × T)
  | [] => [(f, v)]
  | (g, x) :: r => if g = f then (g, v) :: r else (g, x) :: putT f v r
section
variable {K : PySem.W.Frag} {S : Fz} {H : Hp} {h : Hq}
theorem RepF.put {f : Str} {v : V} {t : T} (r : Rep K S H v t) : ∀ {fs : List (Str × V)} {gs : List (Str × T)}, RepF K S H fs gs → RepF K S H (putF f v fs) (putT f t gs)
  | _, _, .nil => .cons r .nil
  | _, _, .cons (f := g) q rest => by
    unfold putF putT
    split
    · exact .cons r rest
    · exact .cons q (RepF.put r rest)
theorem RepF.length : ∀ {fs : List (Str × V)} {gs : List (Str × T)}, RepF K S H fs gs → fs.length = gs.length
  | _, _, .nil => rfl
  | _, _, .cons _ q => congrArg (· + 1) (RepF.length q)
def insOf (h : Hq) (x : T) : Option (Addr × List (Str × T)) := match x with
  | .ins C gs => some (C, gs)
  | .ref p => match h p with
    | some (.ins C gs) => some (C, gs)
    | _ => none
  | _ => none
end

def eFld (C : Addr) (f : Str) (m : EM) : EM := fun s h Q E => m s h (fun x h1 => match insOf h1 x with
  | some (C', gs) => C' = C ∧ match gs.lookup f with
    | some t => Q t h1
    | none => False
  | none => False) E
section
variable {X : Cx} {W : WX} {C : Addr}
def eMeth (C : Addr) (nm : Str) (n : Nat) (c : Con) (mo : EM) (ma : AM) : EM := fun s h Q E => mo s h (fun x h1 => match insOf h1 x with
  | some (C', gs) => C' = C ∧ gs.lookup nm = none ∧ ma s h1 (fun ts h2 => ts.length + 1 = n ∧ c (x :: ts) h2 Q fun y h3 => E y s h3) E
  | none => False) E
def eProp (C : Addr) (c : Con) (mo : EM) : EM := fun s h Q E => mo s h (fun x h1 => match insOf h1 x with
  | some (C', _) => C' = C ∧ c [x] h1 Q fun _ _ => False
  | none => False) E
def JK (X : Cx) (W : WX) (kws : List Keyword) (m : AM) : Prop := L2.PK X kws (liftA X.K W m)
theorem jk_nil : JK X W [] aNil := ⟨fun pos pins s σ H Q' I ⟨S, h, t, Q, E, m, rs, lk, hm, pk⟩ => (pk_nil (X := X)).run pos pins s σ H Q' I (pk S H h [] [] Fut.refl m .nil hm)⟩
theorem jk_cons {e : Expr} {m : EM} {r : AM} {kws : List Keyword} {nm : Option Str} {kpos : Pos} (he : JE X W e m) (hr : JK X W kws r) : JK X W (⟨nm, e, kpos⟩ :: kws) (aCons m r) := ⟨fun pos pins s σ H Q' I ⟨S, h, t, Q, E, m, rs, lk, hm, pk⟩ => (pk_cons he hr).run pos pins s σ H Q' I
  ⟨S, h, t, _, E, m, rs, lk, hm, fun S1 H1 h1 v x f1 m1 r1 q1 => ⟨S1, h1, t, _, E, m1, rs.fut f1, lk.fut f1, q1, fun S2 H2 h2 vs xs f2 m2 r2 q2 => pk S2 H2 h2 _ _ (f1.trans f2) m2 (.cons (r1.fut f2) r2) q2⟩⟩⟩
def eMake (C : Addr) (n m : Nat) (c : Con) (ma mk : AM) : EM := fun s h Q E => ma s h (fun ts h1 => mk s h1 (fun zs h2 => ts.length = n ∧ zs.length = m ∧ ∀ p, h2 p = none → c (.ref p :: (ts ++ zs)) (put h2 p (.ins C [])) (fun v h3 => v = .non ∧ Q (.ref p) h3) fun y h3 => E y s h3) E) E
def sPar3 (i j l : Nat) (a : AM) : SM := fun D s h => a s h (fun ts h1 => match ts with
  | [x, y, z] => D.nx (((s.set i (some x)).set j (some y)).set l (some z)) h1
  | _ => False) D.ex
end
end TL

namespace TL
open PySem L2
theorem vals_pick {xs : List V} {us : List Value} (r : Vals xs us) : ∀ idx : List Nat, Vals (idx.filterMap fun i => xs[i]?) (idx.filterMap fun i => us[i]?)
  | [] => .nil
  | i :: idx => by
    rw [List.filterMap_cons, List.filterMap_cons]
    cases e : xs[i]? with
    | none =>
      have : us[i]? = none := by
        have l := r.length
        have := List.getElem?_eq_none_iff.mp e
        exact List.getElem?_eq_none_iff.mpr (by omega)
      rw [this]
      exact vals_pick r idx
    | some x =>
      obtain ⟨u, e2, r2⟩ := r.get e
      rw [e2]
      exact .cons r2 (vals_pick r idx)
structure KBt (K : PySem.W.Frag) (fd : FuncData) (ps : List Str) (n : Nat) (ks : List Str) (gT : List T → List T → List T) : Prop where
  ex : ∃ g gV, KBn K fd ps n ks g gV ∧ ∀ S H vs zs ts us, RepL K S H vs ts → RepL K S H zs us → ts.length = n → us.length = ks.length → RepL K S H (gV vs zs) (gT ts us)
section
variable {X : Cx} {W : WX}
def eCallK (n m N : Nat) (gT : List T → List T → List T) (c : Con) (ma mk : AM) : EM := fun s h Q E => ma s h (fun ts h1 => mk s h1 (fun zs h2 => ts.length = n ∧ zs.length = m ∧ (gT ts zs).length = N ∧ c (gT ts zs) h2 Q fun x h3 => E x s h3) E) E
def eMakeX (C : Addr) (n m N : Nat) (gT : List T → List T → List T) (c : Con) (ma mk : AM) : EM := fun s h Q E => ma s h (fun ts h1 => mk s h1 (fun zs h2 => ts.length = n ∧ zs.length = m ∧ ∀ p, h2 p = none → (gT (.ref p :: ts) zs).length = N ∧ c (gT (.ref p :: ts) zs) (put h2 p (.ins C [])) (fun v h3 => v = .non ∧ Q (.ref p) h3) fun y h3 => E y s h3) E) E
theorem RepL.reverse {K : PySem.W.Frag} {S : Fz} {H : Hp} : ∀ {v : List V} {t : List T}, RepL K S H v t → RepL K S H v.reverse t.reverse
  | _, _, .nil => .nil
  | _, _, .cons r q => by rw [List.reverse_cons, List.reverse_cons]; exact (RepL.reverse q).append (.cons r .nil)
def eRev (fl : Bool) (m : EM) : EM := fun s h Q E => m s h (fun x h1 => match lsOf h1 x with
  | some ts => mk fl ts.reverse h1 Q
  | none => False) E
def reprT : T → Option Str
  | .non => some ("None" : Str)
  | .bl b => some (if b then "True" else "False" : String)
  | .int i => if i.natAbs.log2 < 1920 then some (toString i : String) else none
  | .str x => if (reprText x).length ≤ 1000000 then some (reprText x) else none
  | _ => none
def oRepr : RLT := fun xs h Q => match xs with
  | [x] => match reprT x with
    | some z => Q (.str z) h
    | none => False
  | _ => False
def PureTo (m : EM) (t : T) : Prop := ∀ (s : Sl) (h : Hq) (Q : TK) (E : EX), Q t h → m s h Q E
def PureA (m : AM) (ts : List T) : Prop := ∀ (s : Sl) (h : Hq) (Q : List T → Hq → Prop) (E : EX), Q ts h → m s h Q E
theorem pu_c {t : T} : PureTo (eC t) t := fun _ _ _ _ q => q
theorem pa_n : PureA aNil [] := fun _ _ _ _ q => q
theorem pa_c {m : EM} {r : AM} {t : T} {ts : List T} (a : PureTo m t) (b : PureA r ts) : PureA (aCons m r) (t :: ts) := fun s h Q E q => a s h _ E (b s h _ E q)
theorem pu_tup {r : AM} {ts : List T} (a : PureA r ts) (l : ts.length ≤ 1000000) : PureTo (eTup r) (.tup ts) := fun s h Q E q => a s h _ E ⟨l, q⟩
theorem pu_lst {r : AM} {ts : List T} (a : PureA r ts) (l : ts.length ≤ 1000000) : PureTo (eLst true r) (.lst ts) := fun s h Q E q => a s h _ E ⟨l, by rw [mk_true]; exact q⟩
theorem pu_pow {m n : EM} {i j : Int} (a : PureTo m (.int i)) (b : PureTo n (.int j)) (c : 0 ≤ j ∧ j ≤ 1000 ∧ i.natAbs < 2 ^ 64) : PureTo (eOp oPow m n) (.int (i ^ j.toNat)) := fun s h Q E q => a s h _ E (b s h _ E ⟨c, q⟩)
theorem j_pure {e : Expr} {m : EM} {t : T} (j : JE X W e m) (p : PureTo m t) : JE X W e (eC t) := PE.wk j fun σ H Q' ⟨S, h, s, Q, E, mm, rs, lk, hm, pk⟩ => ⟨S, h, s, Q, E, mm, rs, lk, p s h Q E hm, pk⟩
end
theorem oMax2 {i j : Int} {h : Hq} {Q : TK} : oMax [.int i, .int j] h Q = Q (.int (if j > i then j else i)) h := rfl
theorem oMin2 {i j : Int} {h : Hq} {Q : TK} : oMin [.int i, .int j] h Q = Q (.int (if j < i then j else i)) h := rfl
theorem oMax1 {ts : List T} {ns : List Int} {h : Hq} {Q : TK} (e : intsOf ts = some ns) : oMax [.lst ts] h Q = (0 < ns.length ∧ ∀ m, m ∈ ns → (∀ y, y ∈ ns → y ≤ m) → Q (.int m) h) := by
  unfold oMax
  simp only [intsIn, lsOf, Option.bind_some, e]
theorem oMin1 {ts : List T} {ns : List Int} {h : Hq} {Q : TK} (e : intsOf ts = some ns) : oMin [.lst ts] h Q = (0 < ns.length ∧ ∀ m, m ∈ ns → (∀ y, y ∈ ns → m ≤ y) → Q (.int m) h) := by
  unfold oMin
  simp only [intsIn, lsOf, Option.bind_some, e]
theorem oAddI' {fl : Bool} {i j : Int} {h : Hq} {Q : TK} : oAdd fl (.int i) (.int j) h Q = Q (.int (i + j)) h := rfl
theorem oAddL {fl : Bool} {xs ys : List T} {h : Hq} {Q : TK} : oAdd fl (.lst xs) (.lst ys) h Q = (xs.length + ys.length ≤ 1000000 ∧ mk fl (xs ++ ys) h Q) := rfl
theorem oMulI' {fl : Bool} {i j : Int} {h : Hq} {Q : TK} : oMul fl (.int i) (.int j) h Q = (MulOk i j ∧ Q (.int (i * j)) h) := rfl
end TL

namespace TL
open PySem L2
def keyT : T → Option Key
  | .int i => some (.inl i)
  | .str x => some (.inr x)
  | _ => none
section
variable {κ : Type} [DecidableEq κ]
def valT (gs : List (κ × T)) (k : κ) : Option T := (gs.find? fun kv => decide (kv.1 = k)).map (·.2)
def putD (gs : List (κ × T)) (k : κ) (v : T) : List (κ × T) := if (gs.any fun kv => decide (kv.1 = k)) = true then gs.map (fun kv => if kv.1 = k then (kv.1, v) else kv) else gs ++ [(k, v)]
variable {K : PySem.W.Frag} {S : Fz} {H : Hp}
theorem RepD.cases {kvs : List (κ × V)} {gs : List (κ × T)} (r : RepD K S H kvs gs) : (kvs = [] ∧ gs = []) ∨ ∃ k v t kvs' gs', kvs = (k, v) :: kvs' ∧ gs = (k, t) :: gs' ∧ Rep K S H v t ∧ RepD K S H kvs' gs' := by
  obtain ⟨h1, h2⟩ := r
  cases kvs with
  | nil =>
    cases gs with
    | nil => exact .inl ⟨rfl, rfl⟩
    | cons g gs => simp at h1
  | cons kv kvs =>
    cases gs with
    | nil => simp at h1
    | cons g gs =>
      obtain ⟨k, v⟩ := kv
      obtain ⟨k', t⟩ := g
      simp only [List.map_cons, List.cons.injEq] at h1
      obtain ⟨rfl, h1⟩ := h1
      rw [List.map_cons, List.map_cons] at h2
      cases h2 with
      | cons r q => exact .inr ⟨k, v, t, kvs, gs, rfl, rfl, r, h1, q⟩
theorem RepD.nil : RepD K S H ([] : List (κ × V)) [] := ⟨rfl, .nil⟩
theorem RepD.cons {k : κ} {v : V} {t : T} {kvs : List (κ × V)} {gs : List (κ × T)} (r : Rep K S H v t) (q : RepD K S H kvs gs) : RepD K S H ((k, v) :: kvs) ((k, t) :: gs) := ⟨by rw [List.map_cons, List.map_cons, q.1], .cons r q.2⟩
theorem RepD.any {k : κ} {kvs : List (κ × V)} {gs : List (κ × T)} (r : RepD K S H kvs gs) : (kvs.any fun kv => decide (kv.1 = k)) = (gs.any fun kv => decide (kv.1 = k)) := by
  have e1 : (kvs.any fun kv => decide (kv.1 = k)) = (kvs.map (·.1)).any fun z => decide (z = k) := by rw [List.any_map]; rfl
  have e2 : (gs.any fun kv => decide (kv.1 = k)) = (gs.map (·.1)).any fun z => decide (z = k) := by rw [List.any_map]; rfl
  rw [e1, e2, r.1]
theorem RepD.app {kvs ls : List (κ × V)} {gs ms : List (κ × T)} (r : RepD K S H kvs gs) (q : RepD K S H ls ms) : RepD K S H (kvs ++ ls) (gs ++ ms) := ⟨by rw [List.map_append, List.map_append, r.1, q.1], by rw [List.map_append, List.map_append]; exact r.2.append q.2⟩
theorem RepD.put {k : κ} {v : V} {t : T} {kvs : List (κ × V)} {gs : List (κ × T)} (r : RepD K S H kvs gs) (q : Rep K S H v t) : RepD K S H (putK kvs k v) (putD gs k t) := by
  unfold putK putD
  rw [r.any]
  split
  · rename_i hany
    clear hany
    induction kvs generalizing gs with
    | nil =>
      rcases r.cases with ⟨_, rfl⟩ | ⟨_, _, _, _, _, z, _⟩
      · exact .nil
      · cases z
    | cons kv kvs ih =>
      rcases r.cases with ⟨z, _⟩ | ⟨k', v', t', kvs', gs', z, rfl, r1, r2⟩
      · cases z
      · cases z
        rw [List.map_cons, List.map_cons]
        by_cases c : k' = k
        · rw [if_pos c, if_pos c]; exact .cons q (ih r2)
        · rw [if_neg c, if_neg c]; exact .cons r1 (ih r2)
  · exact r.app (.cons q .nil)
theorem RepD.length {kvs : List (κ × V)} {gs : List (κ × T)} (r : RepD K S H kvs gs) : kvs.length = gs.length := by
  have := congrArg List.length r.1
  simpa using this
theorem RepD.fu {S1 : Fz} {H1 : Hp} {kvs : List (κ × V)} {gs : List (κ × T)} (f : Fu S H S1 H1) (r : RepD K S H kvs gs) : RepD K S1 H1 kvs gs := ⟨r.1, r.2.fu f⟩
theorem RepD.fut {S1 : Fz} {H1 : Hp} {kvs : List (κ × V)} {gs : List (κ × T)} (f : Fut S H S1 H1) (r : RepD K S H kvs gs) : RepD K S1 H1 kvs gs := r.fu f.fu
end
def dOf : Option O → Option (List (Key × T))
  | some (.dK gs) => some gs
  | some (.dL _ gs) => some gs
  | _ => none
section
variable {X : Cx} {W : WX} {K : PySem.W.Frag} {S : Fz} {H : Hp} {h : Hq}
theorem ref_dK (m : Sim K S H h) {p : Addr} {gs : List (Key × T)} (e : h p = some (.dK gs)) : ∃ kvs, H p = some (.dK kvs) ∧ RepD K S H kvs gs := by
  obtain ⟨u, e1, kvs, e2, r⟩ := m.ob p _ e
  subst e2
  exact ⟨kvs, e1, r⟩
theorem keyT_ok {v : V} {t : T} {k : Key} (r : Rep K S H v t) (e : keyT t = some k) : v = kV k := by
  cases r <;> simp only [keyT] at e <;> first
    | (cases e; done)
    | (cases e; rfl)
def eDNew : EM := fun _ h Q _ => ∀ p, h p = none → Q (.ref p) (put h p (.dK []))
def eDIn (neg : Bool) (a b : EM) : EM := fun s h Q E => a s h (fun y h1 => b s h1 (fun x h2 => match x with
  | .ref p => match dOf (h2 p) with
    | some gs => match keyT y with
      | some k => Q (.bl (xor neg (valT gs k).isSome)) h2
      | none => False
    | _ => False
  | _ => False) E) E
def eDGet (a b : EM) : EM := fun s h Q E => a s h (fun x h1 => b s h1 (fun y h2 => match x with
  | .ref p => match dOf (h2 p) with
    | some gs => match keyT y with
      | some k => match valT gs k with
        | some t => Q t h2
        | none => False
      | none => False
    | _ => False
  | _ => False) E) E
def DcK (ts : List T) (stay : Hq → Prop) (g : T → Sl → Option Sl) (tt : TM) (ek ev : EM) (s : Sl) (h1 : Hq) (Q : TK) : Prop := ∃ I : Nat → List (Key × T) → Hq → Prop, I 0 [] h1 ∧ ∀ i acc h, i ≤ ts.length → I i acc h → stay h ∧ match ts[i]? with
  | none => ∀ p, h p = none → Q (.ref p) (put h p (.dK acc))
  | some t => acc.length < lim ∧ match g t s with
    | some s2 => tt s2 h (fun b h3 => if b = true then ek s2 h3 (fun y h4 => ev s2 h4 (fun z h5 => ∃ k, keyT y = some k ∧ I (i + 1) (putD acc k z) h5) E0) E0 else I (i + 1) acc h3) E0
    | none => False
def eDc (src : IM) (g : T → Sl → Option Sl) (tt : TM) (ek ev : EM) : EM := fun s h Q E => src s h (fun ts stay h1 => DcK ts stay g tt ek ev s h1 Q) E
def sDPutT (mo mi mv : EM) : SM := fun D s h => mv s h (fun v h1 => mo s h1 (fun x h2 => mi s h2 (fun y h3 => match x with
  | .ref p => match h3 p with
    | some (.dK gs) => gs.length < lim ∧ match keyT y with
      | some k => D.nx s (put h3 p (.dK (putD gs k v)))
      | none => False
    | _ => False
  | _ => False) D.ex) D.ex) D.ex
end
theorem view_bl {h : Hq} {b : Bool} : view h (.bl b) = .bl b := rfl
theorem dep_bl {b : Bool} : depth? (.bl b) = true := rfl
theorem eqT_tt : eqT (.bl true) (.bl true) = true := rfl
theorem eqT_ff : eqT (.bl false) (.bl false) = true := rfl
theorem eqT_tf : eqT (.bl true) (.bl false) = false := rfl
theorem eqT_ft : eqT (.bl false) (.bl true) = false := rfl
end TL

namespace TL
open PySem L2
section
variable {X : Cx} {W : WX} {K : PySem.W.Frag} {C : Addr}
def oOwn (C : Addr) (c : Con) : R2T := fun x y h Q => match insOf h x, insOf h y with
  | some (C1, _), some (C2, _) => C1 = C ∧ C2 = C ∧ c [x, y] h Q fun _ _ => False
  | _, _ => False
def TyC (K : PySem.W.Frag) (C : Addr) : Prop := ∀ H a dx fs, H a = some (.ins C dx fs) → TyX K H (.ref a) (.ref C)
def oIsiC (K : PySem.W.Frag) : RLT := fun xs h Q => match xs with
  | [x, .ref D] => (∃ k, kdOf h x = some k ∧ PySem.W.kitOne K (.type k.nm) (.ref D) = some false ∧ Q (.bl false) h) ∨ (∃ C gs b, insOf h x = some (C, gs) ∧ TyC K C ∧ PySem.W.kitOne K (.ref C) (.ref D) = some b ∧ Q (.bl b) h)
  | _ => False
end
end TL

namespace TL
open PySem L2
section
variable {prog : Program} {w : World} {A : Around} {E : Value → Shared → Prop} {s : Shared} {K : PySem.W.Frag} {x C f : Addr} {ox : Obj} {od : Option Obj} {b tb : Value}
end
section
variable {X : Cx} {K : PySem.W.Frag} {C : Addr}
end
end TL

namespace TL
open PySem L2
section
variable {X : Cx} {W : WX} {K : PySem.W.Frag} {C : Addr}
end
end TL

namespace TL
open PySem PySem.Spec L2 PyProof.Rows
section
variable {X : Cx} {W : WX} {tg : Expr}
def iRangeW (a : AM) : IM := fun s h Q E => a s h (fun ts h1 => match ts with
  | [.int i, .int j] => Q (rng i (j - i).toNat) (fun _ => True) h1
  | _ => False) E
end
end TL

namespace TL
open PySem PySem.Spec PySem.Calls L2 PyProof.Rows
section
variable {X : Cx} {W : WX} {K : PySem.W.Frag} {C : Addr}
structure PropSet (K : PySem.W.Frag) (C : Addr) (f : Str) (p g : Addr) : Prop where
  tk : PySem.W.takerIn K C f = some (some (.ref p))
  ty : PySem.W.typeIn K (.ref p) = some (.type "property")
  rc : ∃ a rest, PySem.W.recIn K p "property" = some (a :: .ref g :: rest)
def sPropT (C : Addr) (c : Con) (mo mv : EM) : SM := fun D s h => mv s h (fun y h1 => mo s h1 (fun x h2 => match insOf h2 x with
  | some (C', _) => C' = C ∧ c [x, y] h2 (fun _ h3 => D.nx s h3) fun z h3 => D.ex z s h3
  | none => False) D.ex) D.ex
structure StM (K : PySem.W.Frag) (C : Addr) (m : Str) (f : Addr) : Prop where
  rd : ∃ mc p rest, PySem.W.typeIn K (.ref C) = some mc ∧ PySem.W.readsIn K C mc = true ∧ PySem.W.findCls K (.ref C) mc m = some (.get (.builtin "staticmethod.__get__") (.ref p) .none (.ref C)) ∧ PySem.W.recIn K p "staticmethod" = some (.ref f :: rest)
  ga : PySem.W.specialIn K (.ref C) "__getattribute__" = some (some (.builtin "type.__getattribute__"))
  kp : PySem.W.keepIn K (.ref f) = true
def eOwnCall (C : Addr) (n : Nat) (c : Con) (mo : EM) (ma : AM) : EM := fun s h Q E => mo s h (fun x h1 => (insOf h1 x).isSome = true ∧ ma s h1 (fun ts h2 => match insOf h2 x with
  | some (C', _) => C' = C ∧ ts.length + 1 = n ∧ c (x :: ts) h2 Q fun y h3 => E y s h3
  | none => False) E) E
end
end TL

namespace TL
open PySem L2
def kT : Key → T
  | .inl i => .int i
  | .inr x => .str x
section
variable {X : Cx} {W : WX} {K : PySem.W.Frag} {S : Fz} {H : Hp} {h : Hq}
theorem RepD.get {κ : Type} [DecidableEq κ] {kvs : List (κ × V)} {gs : List (κ × T)} (r : RepD K S H kvs gs) {i : Nat} {k : κ} {t : T} (e : gs[i]? = some (k, t)) : ∃ v, kvs[i]? = some (k, v) ∧ Rep K S H v t := by
  obtain ⟨h1, h2⟩ := r
  have e2 : (gs.map (·.2))[i]? = some t := by rw [List.getElem?_map, e]; rfl
  have e1 : (gs.map (·.1))[i]? = some k := by rw [List.getElem?_map, e]; rfl
  obtain ⟨v, ev, rv⟩ := h2.get e2
  rw [← h1] at e1
  rw [List.getElem?_map] at ev e1
  cases z : kvs[i]? with
  | none => rw [z] at ev; cases ev
  | some q =>
    rw [z] at ev e1
    cases ev; cases e1
    exact ⟨_, rfl, rv⟩
def sLk (m : SM) : SM := fun D s h => ∃ p gs, h p = some (.dK gs) ∧ ∀ u : HO, m { nx := fun s' h' => h' p = some (.dL u gs) ∧ D.nx s' (put h' p (.dK gs)), rt := fun v h' => h' p = some (.dL u gs) ∧ D.rt v (put h' p (.dK gs)), bk := fun s' h' => h' p = some (.dL u gs) ∧ D.bk s' (put h' p (.dK gs)), ct := fun s' h' => h' p = some (.dL u gs) ∧ D.ct s' (put h' p (.dK gs)), ex := D.ex } s (put h p (.dL u gs))
def eLk (m : EM) : EM := fun s h Q E => ∃ p gs, h p = some (.dK gs) ∧ ∀ u : HO, m s (put h p (.dL u gs)) (fun v h' => h' p = some (.dL u gs) ∧ Q v (put h' p (.dK gs))) E
def keysT (gs : List (Key × T)) : List T := gs.map fun q => kT q.1
def iDict (f : List (Key × T) → List T) (a : EM) : IM := fun s h Q E => a s h (fun x h1 => match x with
  | .ref p => match h1 p with
    | some (.dL u gs) => Q (f gs) (fun h2 => h2 p = some (.dL u gs)) h1
    | _ => False
  | _ => False) E
def oDict : RLT := fun xs h Q => match xs with
  | [.ref p] => match dOf (h p) with
    | some gs => ∀ q, h q = none → Q (.ref q) (put h q (.dK gs))
    | none => False
  | _ => False
def eDGet2 (a b c : EM) : EM := fun s h Q E => a s h (fun x h1 => match x with
  | .ref p => (dOf (h1 p)).isSome = true ∧ b s h1 (fun y h2 => c s h2 (fun z h3 => match dOf (h3 p) with
    | some gs => match keyT y with
      | some k => Q ((valT gs k).getD z) h3
      | none => False
    | none => False) E) E
  | _ => False) E
def mPairs : List (EM × EM) → Sl → Hq → (List (T × T) → Hq → Prop) → EX → Prop
  | [], _, h, Q, _ => Q [] h
  | (a, b) :: r, s, h, Q, E => a s h (fun x h1 => b s h1 (fun y h2 => mPairs r s h2 (fun ps h3 => Q ((x, y) :: ps) h3) E) E) E
def keyTs : List (T × T) → Option (List (Key × T))
  | [] => some []
  | (x, y) :: r => match keyT x, keyTs r with
    | some k, some kvs => some ((k, y) :: kvs)
    | _, _ => none
def mergeD (gs more : List (Key × T)) : List (Key × T) := more.foldl (fun acc kv => putD acc kv.1 kv.2) gs
inductive RepP (K : PySem.W.Frag) (S : Fz) (H : Hp) : List (V × V) → List (T × T) → Prop
  | nil : RepP K S H [] []
  | cons {v w : V} {x y : T} {ps : List (V × V)} {xs : List (T × T)} : Rep K S H v x → Rep K S H w y → RepP K S H ps xs → RepP K S H ((v, w) :: ps) ((x, y) :: xs)
theorem lift_pairs {σ : L2.St} {s : Sl} {E : EX} : ∀ (ms : List (EM × EM)) {S : Fz} {H : Hp} {h : Hq} {Q : List (T × T) → Hq → Prop} {Q' : List (V × V) → Hp → Prop}, Sim K S H h → RepS K S H σ s → LkX K W S H E → mPairs ms s h Q E →
    (∀ S1 H1 h1 ps xs, Fut S H S1 H1 → Sim K S1 H1 h1 → RepP K S1 H1 ps xs → Q xs h1 → Q' ps H1) → tPairs (ms.map fun m => (liftE K W m.1, liftE K W m.2)) σ H Q'
  | [], S, H, h, Q, Q', m, rs, lk, hm, pk => pk S H h [] [] Fut.refl m .nil hm
  | (a, b) :: r, S, H, h, Q, Q', m, rs, lk, hm, pk => ⟨S, h, s, _, E, m, rs, lk, hm, fun S1 H1 h1 v x f1 m1 r1 q1 => ⟨S1, h1, s, _, E, m1, rs.fut f1, lk.fut f1, q1, fun S2 H2 h2 w y f2 m2 r2 q2 =>
      lift_pairs r m2 (rs.fut (f1.trans f2)) (lk.fut (f1.trans f2)) q2 fun S3 H3 h3 ps xs f3 m3 r3 q3 => pk S3 H3 h3 _ _ ((f1.trans f2).trans f3) m3 (.cons (r1.fut (f2.trans f3)) (r2.fut f3) r3) q3⟩⟩
theorem keyTs_ok : ∀ {ps : List (V × V)} {xs : List (T × T)} {gs : List (Key × T)}, RepP K S H ps xs → keyTs xs = some gs → ∃ kvs : List (Key × V), ps = kvs.map (fun kv => (kV kv.1, kv.2)) ∧ RepD K S H kvs gs
  | _, _, _, .nil, e => by cases e; exact ⟨[], rfl, .nil⟩
  | _, _, _, .cons (x := x) r1 r2 r3, e => by
    unfold keyTs at e
    split at e
    · rename_i k kvs e1 e2
      cases e
      obtain ⟨kv, ep, rd⟩ := keyTs_ok r3 e2
      subst ep
      rw [keyT_ok r1 e1]
      exact ⟨(k, _) :: kv, rfl, .cons r2 rd⟩
    · cases e
theorem RepD.merge : ∀ {ls : List (Key × V)} {ms : List (Key × T)} {kvs : List (Key × V)} {gs : List (Key × T)}, RepD K S H ls ms → RepD K S H kvs gs → RepD K S H (mergeK kvs ls) (mergeD gs ms) := by
  intro ls
  induction ls with
  | nil =>
    intro ms kvs gs r q
    rcases r.cases with ⟨_, rfl⟩ | ⟨_, _, _, _, _, z, _⟩
    · exact q
    · cases z
  | cons l ls ih =>
    intro ms kvs gs r q
    rcases r.cases with ⟨z, _⟩ | ⟨k, v, t, kvs', gs', z, rfl, r1, r2⟩
    · cases z
    · cases z
      show RepD K S H (mergeK (putK kvs k v) ls) (mergeD (putD gs k t) gs')
      exact ih r2 (q.put r1)
def eDisp (ms : List (EM × EM)) : EM := fun s h Q E => ∀ p, h p = none → mPairs ms s (put h p (.dK [])) (fun xs h2 => h2 p = some (.dK []) ∧ ∃ gs, keyTs xs = some gs ∧ gs.length ≤ 15 ∧ Q (.ref p) (put h2 p (.dK (mergeD [] gs)))) E
theorem j_disp {pos : Pos} {keys : List (Option Expr)} {values : List Expr} {ms : List (EM × EM)} (j : PPs X pos keys values (ms.map fun m => (liftE X.K W m.1, liftE X.K W m.2))) (hall : keys.all (·.isSome) = true := by rfl) (hl : keys.length = values.length := by rfl) (h0 : keys ≠ [] := by simp) (h15 : keys.length ≤ 15 := by decide) :
    JE X W (.Dict keys values pos) (eDisp ms) := PE.wk (pe_disp j hall hl h0 h15) fun σ H Q' ⟨S, h, s, Q, E, m, rs, lk, hm, pk⟩ p np => by
  have f0 : Fut S H S (upd H p (.dK [])) := fut_upd (m.nS np)
  have m0 : Sim X.K S (upd H p (.dK [])) (put h p (.dK [])) := m.new (o := .dK []) np ⟨[], rfl, .nil⟩
  refine lift_pairs ms m0 (rs.fut f0) (lk.fut f0) (hm p (m.free np)) fun S1 H1 h1 ps xs f1 m1 r1 ⟨e1, gs, e2, l2, q1⟩ => ?_
  obtain ⟨kvs0, e3, rd0⟩ := ref_dK m1 e1
  obtain ⟨kvs, ep, rd⟩ := keyTs_ok r1 e2
  have z0 : kvs0 = [] := by
    rcases rd0.cases with ⟨z, _⟩ | ⟨_, _, _, _, _, _, z, _⟩
    · exact z
    · cases z
  subst z0
  have f2 : Fut S1 H1 S1 (upd H1 p (.dK (mergeK [] kvs))) := fut_upd (m1.nS' e1)
  exact ⟨e3, kvs, ep, by rw [rd.length]; exact l2, pk S1 _ _ _ _ ((f0.trans f1).trans f2) (m1.write (o' := .dK (mergeD [] gs)) e1 ⟨_, rfl, rd.merge .nil⟩) (.ref p) q1⟩
def eLstR2 (fl : Bool) (a b : EM) : EM := fun s h Q E => a s h (fun x h1 => b s h1 (fun y h2 => match x, y with
  | .int i, .int j => (-1000000 ≤ i ∧ i ≤ 1000000 ∧ -1000000 ≤ j ∧ j ≤ 1000000) ∧ mk fl (rng i (j - i).toNat) h2 Q
  | _, _ => False) E) E
def oListD (fl : Bool) : RLT := fun xs h Q => match xs with
  | [.ref p] => match dOf (h p) with
    | some gs => mk fl (keysT gs) h Q
    | none => False
  | _ => False
end
end TL

set_option maxHeartbeats 1000000
namespace TL
open PySem PySem.Spec PySem.Calls PyProof.Rows L2
section
variable {P : Program} {w : World} {A : Around} {s : Shared} {f c' t : Addr} {q x : Str} {params : Arguments} {scope : Scope} {cl : List (Str × Addr)} {pm ctv : Value} {p1 p2 p3 p4 p5 : Pos} {kk : Nat} {mg mb : Str → Option Value} {its : Array Value} {i : Int} {tk : Tok}
end
section
variable {X : Cx} {pins : List (Addr × Obj)} {σ : L2.St} {H : Hp} {s : Shared} {c P : Addr} {params : Arguments} {body : Expr} {scope : Scope} {pos : Pos} {E : Value → Shared → Prop} {Q : Value → Shared → Prop}
end
section
variable {X : Cx} {W : WX} {c P : Addr} {params : Arguments} {scope : Scope} {e : Expr} {te : TE} {x : Str} {p pos lpos kpos p1 p2 p3 p4 p5 : Pos} {kk : Nat}
end
section
variable {K : PySem.W.Frag} {S : Fz} {H : Hp} {h : Hq}
end
section
variable {X : Cx} {W : WX} {c P : Addr} {params : Arguments} {scope : Scope} {e : Expr} {m : EM} {x : Str} {p pos lpos kpos p1 p2 p3 p4 p5 : Pos} {kk : Nat}
end
structure FunC (K : PySem.W.Frag) (x qual : Str) (st : Stmt) (f : Addr) (fd : FuncData) (c : Addr) : Prop where
  ex : ∃ (oc : Value) (od : Option Addr) (kV doc pm : Value) (an : Option Addr) (ct : Value) (osl : Array (Option Value)),
    fd = PySem.W.fnOf x qual (defArgs st) (defBody st) (defScope st) .none kV doc pm an (.ref c) ct ∧ K.lookup f = some ⟨oc, od, .func fd, osl⟩ ∧ PySem.W.codeIn K (.ref c) qual = true
end TL

namespace TL
open PySem L2 PySem.W
section
variable {prog : Program} {w : World} {A : Around} {E : Value → Shared → Prop} {s : Shared} {K : Frag} {x t C f : Addr} {ox : Obj} {od : Option Obj} {op : Operator} {Q : Value → Shared → Prop}
end
section
variable {X : Cx} {W : WX} {K : PySem.W.Frag} {C : Addr}
end
end TL

namespace TL
open PySem PySem.Spec PySem.Calls PyProof.Rows L2
section
variable {prog : Program} {w : World} {A : Around} {E : Value → Shared → Prop} {s : Shared}
end
section
variable {X : Cx} {e : Expr} {te : TE}
end
structure GnE where
  nx : List T → SK
  rt : List T → TK := fun _ _ _ => False
  bk : List T → SK := fun _ _ _ => False
  ct : List T → SK := fun _ _ _ => False
  ex : EX
structure LkG (K : PySem.W.Frag) (W : WX) (S : Fz) (H : Hp) (D : GnE) (D' : GEnds) : Prop where
  nx : ∀ S1 H1 h1 σ s vs ts, Fut S H S1 H1 → Sim K S1 H1 h1 → RepS K S1 H1 σ s → RepL K S1 H1 vs ts → D.nx ts s h1 → D'.nx vs σ H1
  rt : ∀ S1 H1 h1 v u vs ts, Fut S H S1 H1 → Sim K S1 H1 h1 → Rep K S1 H1 v u → RepL K S1 H1 vs ts → D.rt ts u h1 → D'.rt vs v H1
  bk : ∀ S1 H1 h1 σ s vs ts, Fut S H S1 H1 → Sim K S1 H1 h1 → RepS K S1 H1 σ s → RepL K S1 H1 vs ts → D.bk ts s h1 → D'.bk vs σ H1
  ct : ∀ S1 H1 h1 σ s vs ts, Fut S H S1 H1 → Sim K S1 H1 h1 → RepS K S1 H1 σ s → RepL K S1 H1 vs ts → D.ct ts s h1 → D'.ct vs σ H1
  ex : LkX K W S H D.ex
theorem GSs.wk {X : Cx} {st : List Stmt} {t t' : TGn} (h : GSs X st t) (k : ∀ D ys σ H, t' D ys σ H → t D ys σ H) : GSs X st t' := ⟨fun A S ip R n ys s₀ c fs K J gd lv s σ H D g hn gk gi q => h.run A S ip R n ys s₀ c fs K J gd lv s σ H D g hn gk gi (k _ _ _ _ q)⟩
theorem GS.wk {X : Cx} {st : Stmt} {t t' : TGn} (h : GS X st t) (k : ∀ D ys σ H, t' D ys σ H → t D ys σ H) : GS X st t' := ⟨fun A S ip R n ys s₀ c fs K J gd lv s σ H D g hn gk gi q => h.run A S ip R n ys s₀ c fs K J gd lv s σ H D g hn gk gi (k _ _ _ _ q)⟩
section
variable {X : Cx} {W : WX} {st : Stmt} {rest : List Stmt}
theorem LkG.fut {K : PySem.W.Frag} {S S1 : Fz} {H H1 : Hp} {D : GnE} {D' : GEnds} (l : LkG K W S H D D') (f : Fut S H S1 H1) : LkG K W S1 H1 D D' where
  nx := fun S2 H2 h2 σ s vs ts f2 => l.nx S2 H2 h2 σ s vs ts (f.trans f2)
  rt := fun S2 H2 h2 v u vs ts f2 => l.rt S2 H2 h2 v u vs ts (f.trans f2)
  bk := fun S2 H2 h2 σ s vs ts f2 => l.bk S2 H2 h2 σ s vs ts (f.trans f2)
  ct := fun S2 H2 h2 σ s vs ts f2 => l.ct S2 H2 h2 σ s vs ts (f.trans f2)
  ex := l.ex.fut f
theorem RepL.app {K : PySem.W.Frag} {S : Fz} {H : Hp} : ∀ {vs vs' : List V} {ts ts' : List T}, RepL K S H vs ts → RepL K S H vs' ts' → RepL K S H (vs ++ vs') (ts ++ ts')
  | _, _, _, _, .nil, r => r
  | _, _, _, _, .cons a b, r => .cons a (RepL.app b r)
end
section
variable {X : Cx} {W : WX} {C : Addr}
end
end TL

set_option maxHeartbeats 1000000
namespace TL
open PySem L2
end TL

set_option maxHeartbeats 1000000
namespace TL
open PySem L2
def Ev (s : Sl) (h : Hq) (E : EX) (e : EM) (x : T) : Prop := ∀ Q : TK, Q x h → e s h Q E
def Ef (s : Sl) (h : Hq) (E : EX) (b : Bool) (t : TM) : Prop := ∀ Q : Bool → Hq → Prop, Q b h → t s h Q E
def Ea (s : Sl) (h : Hq) (E : EX) (m : AM) (xs : List T) : Prop := ∀ Q : List T → Hq → Prop, Q xs h → m s h Q E
section
variable {s : Sl} {h : Hq} {E : EX}
theorem ev_var {i : Nat} {x : T} (hi : s[i]? = some (some x)) : Ev s h E (eVar i) x := fun Q q => by unfold eVar; rw [hi]; exact q
theorem ev_c {x : T} : Ev s h E (eC x) x := fun Q q => q
theorem ef_of {e : EM} {b : Bool} (he : Ev s h E e (.bl b)) : Ef s h E b (tOf e) := fun Q q => he _ q
theorem ef_tru {e : EM} {b : Bool} (he : Ev s h E e (.bl b)) : Ef s h E b (tTru e) := fun Q q => he _ q
theorem ef_or {x y : TM} (hx : Ef s h E false x) (hy : Ef s h E false y) : Ef s h E false (tOrM x y) := fun Q q => hx _ (hy _ q)
theorem ef_not {x : TM} {b : Bool} (hx : Ef s h E b x) : Ef s h E (!b) (tNotM x) := fun Q q => hx _ q
theorem ef_as {x : TM} {b c : Bool} (hx : Ef s h E b x) (e : b = c) : Ef s h E c x := e ▸ hx
theorem ev_as {x : EM} {u v : T} (hx : Ev s h E x u) (e : u = v) : Ev s h E x v := e ▸ hx
theorem if_go {c : TM} {x y : SM} {D : En} {s : Sl} {h : Hq} {b : Bool} (hc : Ef s h D.ex b c) (q1 : b = true → x D s h) (q2 : b = false → y D s h) : sIf c x y D s h := hc _ (by
  cases b with
  | true => exact q1 rfl
  | false => exact q2 rfl)
theorem ac_ev {x : EM} {v : T} {m : AM} {Q : List T → Hq → Prop} (hx : Ev s h E x v) (q : m s h (fun ts h1 => Q (v :: ts) h1) E) : aCons x m s h Q E := hx _ q
theorem ac_any {x : EM} {m : AM} {Q : List T → Hq → Prop} (q : x s h (fun v h1 => m s h1 (fun ts h2 => Q (v :: ts) h2) E) E) : aCons x m s h Q E := q
theorem ea_nil : Ea s h E aNil [] := fun Q q => q
theorem ea_cons {x : EM} {v : T} {m : AM} {vs : List T} (hx : Ev s h E x v) (hm : Ea s h E m vs) : Ea s h E (aCons x m) (v :: vs) := fun Q q => hx _ (hm _ q)
theorem call_go {n : Nat} {c : Con} {m : AM} {Q : TK} (q : m s h (fun ts h1 => ts.length = n ∧ c ts h1 (frzK Q) fun x h2 => E x s h2) E) : eFrz (eCall n c m) s h Q E := q
theorem calls {n : Nat} {c : Con} {m : AM} {Q : TK} {vs : List T} (hm : Ea s h E m vs) (hl : vs.length = n := by rfl) (q : c vs h (frzK Q) fun x h2 => E x s h2) : eFrz (eCall n c m) s h Q E := hm _ ⟨hl, q⟩
theorem ev_op {o : R2T} {a b : EM} {x y v : T} (ha : Ev s h E a x) (hb : Ev s h E b y) (ho : ∀ Q : TK, Q v h → o x y h Q) : Ev s h E (eOp o a b) v := fun Q q => ha _ (hb _ (ho Q q))
theorem ev_eqI {a b : EM} {i j : Int} (ha : Ev s h E a (.int i)) (hb : Ev s h E b (.int j)) : Ev s h E (eOp oEq a b) (.bl (decide (i = j))) := ev_op ha hb fun _ q => ⟨rfl, rfl, by rw [show view h (.int i) = .int i from rfl, show view h (.int j) = .int j from rfl, eqT_int]; exact q⟩
theorem ev_max {a b : EM} {i j : Int} (ha : Ev s h E a (.int i)) (hb : Ev s h E b (.int j)) : Ev s h E (eCB oMax (aCons a (aCons b aNil))) (.int (if j > i then j else i)) := fun Q q => ha _ (hb _ q)
theorem ev_min {a b : EM} {i j : Int} (ha : Ev s h E a (.int i)) (hb : Ev s h E b (.int j)) : Ev s h E (eCB oMin (aCons a (aCons b aNil))) (.int (if j < i then j else i)) := fun Q q => ha _ (hb _ q)
theorem ev_lstT {m : AM} {vs : List T} (hm : Ea s h E m vs) (l : vs.length ≤ lim) : Ev s h E (eLst true m) (.lst vs) := fun Q q => hm _ ⟨l, by rw [mk_true]; exact q⟩
theorem draw_go {i : Nat} {p : Addr} {z : EM} {n : Int} {Q : TK} (hi : s[i]? = some (some (.ref p))) (hz : Ev s h E z (.int n)) (hp : h p = some .pool) (n0 : 0 < n) (n1 : n < 2 ^ 250) (q : ∀ r, 0 ≤ r → r < n → Q (.int r) h) : eFrz (eCall 2 CDraw (aCons (eVar i) (aCons z aNil))) s h Q E :=
  call_go (ac_ev (ev_var hi) (ac_ev hz (show _ ∧ _ from ⟨rfl, p, n, rfl, n0, n1, hp, q⟩)))
end
section
variable {s s' : Sl} {h : Hq} {D : En} {r : SM} {e : EM} {i : Nat} {v : T}
theorem set_go (q : e s h (fun x h1 => r D (s.set i (some x)) h1) D.ex) : sSeq (sAsg e (gN i)) r D s h := q
theorem set_ev (he : Ev s h D.ex e v) (q : r D (s.set i (some v)) h) : sSeq (sAsg e (gN i)) r D s h := he _ q
theorem ret_ev (he : Ev s h D.ex e v) (q : D.rt v h) : sRet e D s h := he _ q
theorem sif_no {c : TM} {x : SM} (hc : Ef s h D.ex false c) (q : r D s h) : sSeq (sIf c x sNext) r D s h := hc _ q
theorem app_go {i : Nat} {p : Addr} {ts : List T} {m : EM} {E : EX} {Q : TK} (hi : s[i]? = some (some (.ref p))) (hp : h p = some (.lst ts)) (l : ts.length < lim) (hm : Ev s h E m v) (q : Q .non (put h p (.lst (ts ++ [v])))) : eBM isLs oApp (eVar i) (aCons m aNil) s h Q E := by
  refine ev_var hi _ ⟨?_, hm _ ?_⟩
  · unfold isLs lsOf
    dsimp only
    rw [hp]
    rfl
  · show (match h p with | some (.lst ts) => _ | _ => False)
    rw [hp]
    exact ⟨l, q⟩
theorem frz_lst {Q : TK} {ts : List T} {p : Addr} (np : h p = none) (q : Q (.lst ts) h) : frzK Q (.ref p) (put h p (.lst ts)) := by
  unfold frzK
  dsimp only
  rw [put_same]
  dsimp only
  rw [del_put np]
  exact q
end

def Ei (s : Sl) (h : Hq) (E : EX) (m : IM) (ts : List T) : Prop := ∀ Q : List T → (Hq → Prop) → Hq → Prop, (∀ stay : Hq → Prop, stay h → Q ts stay h) → m s h Q E
def Eq1 (s : Sl) (h : Hq) (E : EX) (m : IM) (ts : List T) : Prop := ∀ Q : List T → (Hq → Prop) → Hq → Prop, Q ts (fun _ => True) h → m s h Q E
section
variable {s : Sl} {h : Hq} {E : EX}
theorem Eq1.ei {m : IM} {ts : List T} (x : Eq1 s h E m ts) : Ei s h E m ts := fun Q q => x Q (q _ trivial)
theorem eq_rng {x : EM} {n : Nat} (hx : Ev s h E x (.int n)) (hn : n ≤ 1000000) : Eq1 s h E (iRange1 (aCons x aNil)) (rng 0 n) := fun Q q => hx _ ⟨by omega, by omega, by rw [Int.toNat_natCast]; exact q⟩
theorem ev_lcM {α : Type} {enc : α → T} {xs : List α} {f : α → T} {src : IM} {g : T → Sl → Option Sl} {el : EM} (hs : Ei s h E src (xs.map enc)) (hl : xs.length ≤ 1000000)
    (he : ∀ x ∈ xs, ∃ s2, g (enc x) s = some s2 ∧ Ev s2 h E0 el (f x)) : Ev s h E (eLc true src g tYes el) (.lst (xs.map f)) := fun Q q => hs _ fun stay st => by
  refine lcK_mA f st hl (fun x hx R r => ?_) (by rw [mk_true]; exact q)
  obtain ⟨s2, e2, h2⟩ := he x hx
  rw [e2]
  exact h2 _ r
theorem forK_rng {lo : Int} {n : Nat} {stay : Hq → Prop} {g : GM} {b : SM} {D : En} {s : Sl} {h : Hq} (I : Nat → SK) (h0 : I 0 s h)
    (hend : ∀ s h, I n s h → stay h ∧ D.nx s h) (hstep : ∀ (i : Nat) s h, i < n → I i s h → stay h ∧ g (.int (lo + i)) s h (fun s2 h2 => b { D with nx := I (i + 1), ct := I (i + 1), bk := D.nx } s2 h2) D.ex) : ForK (rng lo n) stay g b D s h := by
  refine forK_go I h0 (fun s h q => hend s h (by rw [rng_len] at q; exact q)) fun i t s h e q => ?_
  obtain ⟨hi, rfl⟩ := rng_at e
  exact hstep i s h hi q
theorem for_src1 {src : IM} {g : GM} {b : SM} {D : En} {ts : List T} {s : Sl} {h : Hq} (hs : Eq1 s h D.ex src ts) (q : ForK ts (fun _ => True) g b D s h) : sFor src g b D s h := hs _ q
theorem drop_go {e : EM} {r : SM} {D : En} {s : Sl} {h : Hq} (q : e s h (fun _ h1 => r D s h1) D.ex) : sSeq (sDrop e) r D s h := q
end
theorem op_go {o : R2T} {a b : EM} {s : Sl} {h : Hq} {E : EX} {Q : TK} (q : a s h (fun x h1 => b s h1 (fun y h2 => o x y h2 Q) E) E) : eOp o a b s h Q E := q
theorem sfor_rng {lo : Int} {n : Nat} {src : IM} {g : GM} {b r : SM} {D : En} {s : Sl} {h : Hq} (hs : Eq1 s h D.ex src (rng lo n)) (I : Nat → SK) (h0 : I 0 s h) (hend : ∀ s h, I n s h → r D s h)
    (hstep : ∀ (i : Nat) s h, i < n → I i s h → g (.int (lo + i)) s h (fun s2 h2 => b { nx := I (i + 1), rt := D.rt, bk := r D, ct := I (i + 1), ex := D.ex } s2 h2) D.ex) : sSeq (sFor src g b) r D s h := hs _ (forK_rng I h0 (fun s h q => ⟨trivial, hend s h q⟩) fun i s h e q => ⟨trivial, hstep i s h e q⟩)
theorem ev_cat {x y : EM} {xs ys : List T} {s : Sl} {h : Hq} {E : EX} (hx : Ev s h E x (.lst xs)) (hy : Ev s h E y (.lst ys)) (l : xs.length + ys.length ≤ lim) : Ev s h E (eOp (oAdd true) x y) (.lst (xs ++ ys)) := ev_op hx hy fun Q q => by
  show _ ∧ mk true _ h Q
  rw [mk_true]
  exact ⟨l, q⟩
theorem if_to {N : SK} {rt : TK} {bk ct : SK} {ex : EX} {c : TM} {x : SM} {b : Bool} {s : Sl} {h : Hq} (hc : Ef s h ex b c) (q1 : b = true → x { nx := N, rt := rt, bk := bk, ct := ct, ex := ex } s h) (q2 : b = false → N s h) : sIf c x sNext { nx := N, rt := rt, bk := bk, ct := ct, ex := ex } s h := if_go hc q1 q2
theorem lst_go {s : Sl} {h : Hq} {E : EX} {Q : TK} {m : AM} {vs : List T} (hm : Ea s h E m vs) (l : vs.length ≤ lim) (q : ∀ p, h p = none → Q (.ref p) (put h p (.lst vs))) : eLst false m s h Q E := hm _ ⟨l, by rw [mk_false]; exact q⟩
theorem ret_go {e : EM} {D : En} {s : Sl} {h : Hq} (q : e s h D.rt D.ex) : sRet e D s h := q
theorem pick {ts : List T} {r : Int} (r0 : 0 ≤ r) (r1 : r < ts.length) : ∃ t ∈ ts, atI ts r = some t := by
  obtain ⟨n, rfl⟩ : ∃ n : Nat, r = (n : Int) := ⟨r.toNat, by omega⟩
  have hn : n < ts.length := by omega
  exact ⟨ts[n], List.getElem_mem hn, atI_nat' (List.getElem?_eq_getElem hn)⟩
theorem pick_go {ts : List T} {i : Nat} {p : Addr} {n : Int} {s : Sl} {h : Hq} {E : EX} {Q : TK} (hi : s[i]? = some (some (.ref p))) (hp : h p = some .pool) (e : n = ts.length) (n0 : 0 < n) (n1 : n < 2 ^ 250) (q : ∀ t ∈ ts, Q t h) : eFrz (eCall 2 CDraw (aCons (eVar i) (aCons (eC (.int n)) aNil))) s h (fun y h2 => oIx (.lst ts) y h2 Q) E :=
  draw_go hi ev_c hp n0 n1 fun r r0 r1 => by
    obtain ⟨t, ht, ea⟩ := pick (ts := ts) r0 (by omega)
    show atK ts r h Q
    unfold atK
    rw [ea]
    exact q t ht
theorem pick_ev {x : EM} {ts : List T} {i : Nat} {p : Addr} {n : Int} {s : Sl} {h : Hq} {E : EX} {Q : TK} (hx : Ev s h E x (.lst ts)) (hi : s[i]? = some (some (.ref p))) (hp : h p = some .pool) (e : n = ts.length) (n0 : 0 < n) (n1 : n < 2 ^ 250) (q : ∀ t ∈ ts, Q t h) : eOp oIx x (eFrz (eCall 2 CDraw (aCons (eVar i) (aCons (eC (.int n)) aNil)))) s h Q E := hx _ (pick_go hi hp e n0 n1 q)
theorem lstT_go {m : AM} {s : Sl} {h : Hq} {E : EX} {Q : TK} (q : m s h (fun ts h1 => ts.length ≤ lim ∧ Q (.lst ts) h1) E) : eLst true m s h Q E := by
  show m s h (fun ts h1 => ts.length ≤ lim ∧ mk true ts h1 Q) E
  simp only [mk_true]
  exact q
theorem hand_go {i j : Nat} {ns : List Int} {k : Int} {s : Sl} {h : Hq} {E : EX} {Q : TK} (hi : s[i]? = some (some (.scr ns))) (hj : s[j]? = some (some (.int k))) (k0 : 0 ≤ k) (k1 : k ≤ 63) (hn : ns.length ≤ 63) (q : ∀ p, h p = none → Q (.ref p) (put h p .pool)) : eFrz (eCall 2 CHand (aCons (eVar i) (aCons (eVar j) aNil))) s h Q E :=
  calls (ea_cons (ev_var hi) (ea_cons (ev_var hj) ea_nil)) rfl ⟨ns, k, rfl, k0, k1, hn, fun p np => by
    unfold frzK
    dsimp only
    rw [put_same]
    exact q p np⟩
theorem cells_eq (ns : List Int) (m : Int) (h1 : 1 ≤ m) (h2 : m ≤ 63) {s : Sl} {h : Hq} {E : EX} {i : Nat} (hi : s[i]? = some (some (.scr ns))) : ∃ k : Nat, (k : Int) ≤ m ∧ Eq1 s h E (iRange1 (aCons (eCB oMax (aCons (eC (.int 1)) (aCons (eCB oMin (aCons (eCB oLen (aCons (eVar i) aNil)) (aCons (eC (.int m)) aNil))) aNil))) aNil)) (rng 0 k) := by
  obtain ⟨k, e, hk⟩ : ∃ k : Nat, (if (if m < (ns.length : Int) then m else (ns.length : Int)) > 1 then (if m < (ns.length : Int) then m else (ns.length : Int)) else 1) = (k : Int) ∧ (k : Int) ≤ m := ⟨(if (if m < (ns.length : Int) then m else (ns.length : Int)) > 1 then (if m < (ns.length : Int) then m else (ns.length : Int)) else 1).toNat, by split <;> split <;> omega, by split <;> split <;> omega⟩
  refine ⟨k, hk, eq_rng ?_ (by omega)⟩
  rw [← e]
  refine ev_max ev_c (ev_min ?_ ev_c)
  exact fun Q q => (ev_var hi : Ev s h E _ _) _ q
end TL

set_option maxHeartbeats 1000000
namespace TL
open PySem PySem.Spec L2 PyProof.Rows
section
variable {X : Cx} {W : WX} {K : PySem.W.Frag} {C : Addr}
end
def spInit2 (C : Addr) (f g : Str) : Sp := fun vs H Q _ => ∃ a y z, vs = [.ref a, y, z] ∧ H a = some (exo a C none) ∧ ∀ dx, H dx = none → dx ≠ a → Q .non (upd (upd (upd H dx (exd dx [(f, y)])) a (exo a C (some dx))) dx (exd dx [(g, z), (f, y)]))
theorem init_ok2 {P : Program} {w : World} {K : PySem.W.Frag} {mg : Str → Option Value} {base : Heap} {qual : Str} {st : Stmt} {fI C : Addr} {fd : FuncData} {y z f g : Str} {p1 p2 p3 p4 q1 q2 q3 q4 : Pos} (F : Fun K "__init__" qual st fI fd) (sc : FnScope ["self", y, z] ["self", y, z] (defScope st)) (T : OexC K C) (hno : PySem.W.findIn K (.ref C) f = some none) (hno2 : PySem.W.findIn K (.ref C) g = some none)
    (hb : defBody st = [.Assign [.Attribute (.Name "self" p1) f p2] (.Name y p3) p4, .Assign [.Attribute (.Name "self" q1) g q2] (.Name z q3) q4])
    (h0 : Vis (defScope st) "self") (h1 : Vis (defScope st) y) (h2 : Vis (defScope st) z) (hd : (y == ("__debug__" : Str)) = false) (hcd : (y == ("__classdict__" : Str)) = false) (hd2 : (z == ("__debug__" : Str)) = false) (hcd2 : (z == ("__classdict__" : Str)) = false)
    (hs : ∀ env, env.scope = defScope st → swapsWith (.Name y p3) (some (.Attribute (.Name "self" p1) f p2)) p4.line env = pure false) (hs2 : ∀ env, env.scope = defScope st → swapsWith (.Name z q3) (some (.Attribute (.Name "self" q1) g q2)) q4.line env = pure false) : FnOk P w K mg base (L2.CX P w) 1 fI fd ["self", y, z] (spInit2 C f g) := by
  refine F.okX (k := 0) sc (fun vs H Q E ⟨a, v, u, e, _⟩ => by rw [e]; rfl) fun cdv A outer s H vs Q E hr ⟨a, v, u, e, ha, q⟩ => ⟨_, by rw [hb]; exact pss_cons (ps_ost (pe_var (i := 0) rfl h0) (pe_var (i := 1) rfl h1 hd hcd) (hs _ rfl)) (pss_one (ps_ost (pe_var (i := 0) rfl h0) (pe_var (i := 2) rfl h2 hd2 hcd2) (hs2 _ rfl))), ?_⟩
  subst e
  refine ⟨v, rfl, .ref a, rfl, a, C, rfl, T, hno, .inl ⟨ha, fun dx n ne => ?_⟩⟩
  refine ⟨u, rfl, .ref a, rfl, a, C, rfl, T, hno2, .inr ⟨dx, [(f, v)], upd_same, ?_, Nat.le_of_ble_eq_true rfl, q dx n ne⟩⟩
  rw [upd_ne ne, upd_same]
section
variable {X : Cx} {W : WX}
end
end TL

set_option maxHeartbeats 1000000
namespace TL
open PySem L2
section
variable {s : Sl} {h : Hq} {E : EX} {C : Addr} {f : Str}
end
section
variable {s : Sl} {h : Hq} {C : Addr} {f : Str} {D : En} {r : SM} {mo mv : EM} {p : Addr} {gs : List (Str × T)}
end
end TL

set_option maxHeartbeats 1000000
namespace TL
open PySem L2
section
variable {s : Sl} {h : Hq} {D : En} {r x y : SM} {p : Addr}
theorem for_rng {src : IM} {g : GM} {b : SM} {lo : Int} {n : Nat} (hs : Eq1 s h D.ex src (rng lo n)) (I : Nat → SK) (h0 : I 0 s h) (hend : ∀ s h, I n s h → D.nx s h)
    (hstep : ∀ (i : Nat) s h, i < n → I i s h → g (.int (lo + i)) s h (fun s2 h2 => b { nx := I (i + 1), rt := D.rt, bk := D.nx, ct := I (i + 1), ex := D.ex } s2 h2) D.ex) : sFor src g b D s h :=
  for_src1 hs (forK_rng I h0 (fun s h q => ⟨trivial, hend s h q⟩) fun i s h hi q => ⟨trivial, hstep i s h hi q⟩)
end
section
variable {X : Cx} {W : WX}
end
section
variable {X : Cx} {W : WX}
end
section
variable {X : Cx} {W : WX}
end
theorem eqTs_self {f : T → Bool} (ih : ∀ t, f t = true → eqT t t = true) : ∀ ts : List T, ts.all f = true → eqTs ts ts = true
  | [], _ => rfl
  | t :: ts, h => by
    rw [List.all_cons, Bool.and_eq_true] at h
    show (eqT t t && eqTs ts ts) = true
    rw [ih t h.1, eqTs_self ih ts h.2]
    rfl
theorem eqT_self : ∀ (n : Nat) (t : T), dat n t = true → eqT t t = true
  | 0, _, h => by cases h
  | n + 1, .non, _ => rfl
  | n + 1, .bl b, _ => by cases b <;> rfl
  | n + 1, .int i, _ => by rw [eqT_int]; exact decide_eq_true rfl
  | n + 1, .str x, h => by rw [eqT_str h h]; exact decide_eq_true rfl
  | n + 1, .tup ts, h => by rw [eqT_tup h h]; exact eqTs_self (eqT_self n) ts h
  | n + 1, .lst ts, h => by rw [eqT_lst h h]; exact eqTs_self (eqT_self n) ts h
  | n + 1, .ins _ _, h => by cases h
  | n + 1, .ref _, h => by cases h
  | n + 1, .ty _, h => by cases h
  | n + 1, .scr _, h => by cases h
theorem ev_selfN {s : Sl} {h : Hq} {E : EX} {x y : EM} {t : T} {n : Nat} (hx : Ev s h E x t) (hy : Ev s h E y t) (hc : dat n (view h t) = true) (hn : n ≤ 64 := by decide) : Ev s h E (eOp oNe x y) (.bl false) := ev_op hx hy fun Q q => by
  refine ⟨dep (n := n) hc hn, dep (n := n) hc hn, ?_⟩
  rw [eqT_self n _ hc]
  exact q
section
variable {X : Cx}
end
end TL

set_option maxHeartbeats 4000000
namespace TL
open PySem PySem.Spec PyProof.Rows L2
structure FnE (P : Program) (w : World) (K : PySem.W.Frag) (mg : Str → Option Value) (base : Heap) (k : Nat) (f : Addr) (fd : FuncData) (ps : List Str) (p : Addr × Obj) (sp : Sp) : Prop where
  ln : ∀ {vs : List V} {H : Hp} {Q : VK} {E : XK}, sp vs H Q E → vs.length = ps.length
  go : ∀ {A : Around} {outer : List Env} {s : Shared} {H : Hp} {args : Args} {us : List Value} {vs : List V} {Q : VK} {E : XK},
    L2H.RoomH k A → A.handled = some (.ref p.1) → L2H.PinOk outer H s p → Env0 P w K mg base A outer s H → BindsTo s fd args (ps.zip us) → Vals vs us → sp vs H Q E →
    codeAny (model P w) A (.call (.ref f) args) (CR (L2.CX P w) outer P w H s Q E) s
theorem FnE.mono {P : Program} {w : World} {K : PySem.W.Frag} {mg : Str → Option Value} {base : Heap} {j k : Nat} {f : Addr} {fd : FuncData} {ps : List Str} {p : Addr × Obj} {sp : Sp} (F : FnE P w K mg base j f fd ps p sp) (h : j ≤ k) : FnE P w K mg base k f fd ps p sp :=
  ⟨F.ln, fun r => F.go (r.mono h)⟩
section
variable {X : Cx} {k n : Nat} {f : Addr} {fd : FuncData} {ps : List Str} {sp : Sp} {x : Str} {q pos : Pos} {e : Expr} {es : List Expr} {t : TA} {a : Addr} {oe : Obj} {pn : List (Addr × Obj)}
end
section
variable {X : Cx} {a : Addr} {oe : Obj} {pn : List (Addr × Obj)}
end
section
variable {X : Cx} {a : Addr} {oe : Obj} {cls : Value} {d : Option Addr} {pn : List (Addr × Obj)}
end
end TL

set_option maxHeartbeats 1000000
namespace TL
open PySem PySem.Spec PyProof.Rows L2 L2H
section
variable {X : Cx} {W : WX} {a : Addr} {oe : Obj} {cls : Value} {d : Option Addr} {pn : List (Addr × Obj)} {xe : Value → Shared → Prop}
end
section
variable {X : Cx} {W : WX}
end
def rIsX (K : PySem.W.Frag) : List V → Hp → VK → Prop := fun xs H Q => ∃ (a c D dd : Addr) (b : Bool) (φ : Heap → Prop) (fs : List (Str × V)), xs = [.ref a, .ref c] ∧ H a = some (.ext φ) ∧ XOk φ a D dd ∧ H dd = some (.xd fs) ∧ ExcC K D ∧ PySem.W.kitOne K (.ref D) (.ref c) = some b ∧ Q (.bl b) H
section
variable {X : Cx}
theorem call_isX : CallR X (.builtin "isinstance") (rIsX X.K) := by
  intro pins s σ H xs us Q I r h
  obtain ⟨a, c, D, dd, b, φ, fs, rfl, eH, xok, e2, C, e, q⟩ := h
  cases r with
  | cons rx rr =>
    cases rr with
    | cons rt rr =>
      cases rr
      cases rx
      cases rt
      obtain ⟨hφ, _⟩ : ObjOk X.prog X.w H s.heap a (.ext φ) := I.hok a _ eH
      obtain ⟨oe, hget, hz, vs, hv⟩ := xok s.heap hφ
      have J : ∃ od, PySem.W.InstAt s.heap a oe D od := by
        obtain ⟨oc, od, oda, osl⟩ := oe
        obtain ⟨h1, h2⟩ := hz
        dsimp only at h1 h2 hv
        subst h1 h2 hv
        have hx : ObjOk X.prog X.w H s.heap dd (.xd fs) := I.hok dd _ e2
        obtain ⟨mA, hns, hr⟩ := hx
        obtain ⟨od, ho, hl⟩ := lookIn_ns hns
        exact ⟨some od, hget, rfl, rfl, ho⟩
      obtain ⟨od, J⟩ := J
      have hcl : (PySem.W.clsIn X.K D).isSome = true := by
        obtain ⟨cd, hc, _⟩ := PySem.W.any_some C.hd
        rw [hc]; rfl
      exact PySem.W.kia_one (PySem.W.kitx_exc hcl C.hg C.hk C.hs C.ha C.hn C.ht C.hm) I.kIn J e (fun z => nomatch z) fun tk => ⟨.bl b, H, I.kept (t' := tk) fun _ _ z => z, rfl, q⟩
def oIsX (K : PySem.W.Frag) : RLT := fun xs h Q => match xs with
  | [.xob D _, .ref c] => ∃ b, ExcC K D ∧ PySem.W.kitOne K (.ref D) (.ref c) = some b ∧ Q (.bl b) h
  | _ => False
theorem c_isX {K : PySem.W.Frag} : CP K (rIsX K) (oIsX K) := fun S H h vs xs Q Q' m r q pk => by
  unfold oIsX at q
  split at q
  · obtain ⟨b, C, e, q⟩ := q
    cases r with
    | cons r1 r =>
      cases r with
      | cons r2 r =>
        cases r
        cases r2
        cases r1 with
        | xob s1 e1 xk s2 e2 _ => exact ⟨_, _, _, _, b, _, _, rfl, e1, xk, e2, C, e, pk S H h _ _ Fut.refl m (.bl b) q⟩
  · exact q.elim
theorem ev_isX {K : PySem.W.Frag} {s : Sl} {h : Hq} {E : EX} {m : EM} {D c : Addr} {gs : List (Str × T)} {b : Bool} (hx : Ev s h E m (.xob D gs)) (C : ExcC K D) (e : PySem.W.kitOne K (.ref D) (.ref c) = some b) : Ev s h E (eCB (oIsX K) (aCons m (aCons (eC (.ref c)) aNil))) (.bl b) := fun Q q => hx _ ⟨b, C, e, q⟩
end
end TL

set_option maxHeartbeats 2000000
namespace PySem.HandSPX
open PySem PySem.Spec
section
variable {prog : Program} {w : World} {A : Around} {h : Heap} {t : Nat} {os : OsState} {E : Value → Shared → Prop} {g : Array GenState} {R : Result → Shared → Prop} {d : Drawn}
variable {C N : Addr} {nm q : Str} {bm bs bmB : List Value} {ab hdct : Bool} {col : Option Bool} {sn : List Str} {sub : List Value} {k0 k1 k2 k3 k5 : Option Value} {dd : Option Addr} {newId B initId : String}
theorem kw_check {M : Model} (F : ExcBaseFacts B newId initId bmB) (same : ∀ z : String, bm.contains (.type z) = bmB.contains (.type z)) {kw : List (Str × Value)} {Q : Unit → Shared → Prop}
    (cls : h.get? C = some (excClassObj nm q C N bs bm hdct sn sub ab col dd k0 k1 k2 k3 k5 newId)) (go : Q () ⟨h, g, d, t, os⟩) : wpAny M A (checkBuiltinCall newId ⟨[.ref C], kw⟩) Q E ⟨h, g, d, t, os⟩ := by
  have inB : (Value.ref C :: bm).contains (.type B) = true := by rw [List.contains_cons, same, F.hasB, Bool.or_true]
  have long := F.noStar
  simp only [checkBuiltinCall, F.newKind, F.newSplit, F.newRow]
  repeat (first | refine wpAny_loadPart_at cls ?_ | (refine wpAny_isSubtype_exc cls ?_; rw [inB]) | refine wpAny_staticBase_exc cls ?_ | refine wpAny_madeBy_exc cls ?_ | simp only [bne_self_eq_false, Bool.false_eq_true, if_false] | wp_step)
  exact go
theorem kw_new (F : ExcBaseFacts B newId initId bmB) (same : ∀ z : String, bm.contains (.type z) = bmB.contains (.type z)) {kw : List (Str × Value)}
    (cls : h.get? C = some (excClassObj nm q C N bs bm hdct sn sub ab col dd k0 k1 k2 k3 k5 newId))
    (go : R (.ok (.ret (.ref (h.objs.size + 1)))) ⟨(h.push (W.kdv_tup [])).push (excO C h.objs.size), g, d, t, os⟩) :
    codeAny (model prog w) A (.builtin newId ⟨[.ref C], kw⟩) R ⟨h, g, d, t, os⟩ := by
  have ends := F.ends
  have inB : (Value.ref C :: bm).contains (.type B) = true := by rw [List.contains_cons, same, F.hasB, Bool.or_true]
  have inA : (Value.ref C :: bm).contains (.type "AttributeError") = false := by rw [List.contains_cons, same, F.noAttr]; rfl
  have inN : (Value.ref C :: bm).contains (.type "NameError") = false := by rw [List.contains_cons, same, F.noName]; rfl
  refine codeAny_builtinAt F.entry ?_
  unfold Builtin.«BaseException.__new__»
  refine wpAt_bind ?_
  show wpAt _ _ _ (stack >>= _) _ _ _
  refine wpAt_bind (wpAt_stack fun p below => wpAt_of_wpAny ?_)
  wp_walk
  refine wpAt_of_wpAny ?_
  rw [F.owner]
  repeat (first | with_reducible refine wpAny_madeHere_exc F.canon cls ?_ | with_reducible refine wpAny_loadPart_at cls ?_ | (with_reducible refine wpAny_isSubtype_exc cls ?_; first | rw [inB] | rw [inA] | rw [inN]) | wp_step)
  show R _ _
  rw [Heap.size_push]
  exact go
theorem kw_type (F : ExcBaseFacts B newId initId bmB) (same : ∀ z : String, bm.contains (.type z) = bmB.contains (.type z)) {kw : List (Str × Value)} {fI : Addr} {Q : Fin → Shared → Prop}
    (cls : h.get? C = some (excClassObj nm q C N bs bm hdct sn sub ab col dd k0 k1 k2 k3 k5 newId))
    (ini : W.Looks (model prog w) h (typeLookup (.ref C) "__init__") (some (.ref fI))) (bnd : ∀ self, W.Looks (model prog w) h (bindSpecial (.ref fI) self) (.ref fI, [self]))
    (go : codeAny (model prog w) A (.call (.ref fI) ⟨[.ref (h.objs.size + 1)], kw⟩)
      (fun r s' => match r with | .ok (.ret v) => v = .none ∧ Q (.done (.ret (.ref (h.objs.size + 1)))) s' | .ok _ => False | .error e => E e s')
      ⟨(h.push (W.kdv_tup [])).push (excO C h.objs.size), g, d, t, os⟩) :
    wpAny (model prog w) A (Builtin.«type.__call__» ⟨[.ref C], kw⟩) Q E ⟨h, g, d, t, os⟩ := by
  repeat (first | with_reducible refine wpAny_loadPart_at cls ?_ | with_reducible refine wpAny_madeBy_exc cls ?_ | wp_step)
  refine codeAny_call_builtin_code (Code.quiet_builtin _ F.quiet) (kw_check F same cls ?_)
  refine kw_new F same cls ?_
  show wpAny _ _ _ _ _ _
  have up : ∀ b o, h.get? b = some o → ((h.push (W.kdv_tup [])).push (excO C h.objs.size)).get? b = some o := fun b o e => Heap.get?_push_of_some _ (Heap.get?_push_of_some _ e)
  have cls2 := up _ _ cls
  have at2 : ((h.push (W.kdv_tup [])).push (excO C h.objs.size)).get? (h.objs.size + 1) = some (excO C h.objs.size) := by heap_get
  have inC : (Value.ref C :: bm).contains (.ref C) = true := by simp
  have i2 := ini.keeps up
  have b2 := (bnd (.ref (h.objs.size + 1))).keeps up
  unfold isInstance
  repeat (first | with_reducible refine wpAny_loadPart_at at2 ?_ | (with_reducible refine wpAny_isSubtype_exc cls2 ?_; rw [inC]) | wp_step)
  show wpAny _ _ (typeLookup (.ref C) _) _ _ _
  refine i2.at ?_
  refine wpAny_holding (wpAny_bind (b2.at ?_))
  refine wpAny_bind (wpAny_call (codeAny_mono go fun r s' z => ?_))
  rcases r with e | (v | _ | _ | _) <;> first | exact z | exact z.elim | skip
  obtain ⟨rfl, z⟩ := z
  first
    | exact wpAny_pure (wpAny_pure z)
    | (wp_walk; exact z)
theorem kw_call (F : ExcBaseFacts B newId initId bmB) (same : ∀ z : String, bm.contains (.type z) = bmB.contains (.type z)) {kw : List (Str × Value)} {fI : Addr}
    (cls : h.get? C = some (excClassObj nm q C N bs bm hdct sn sub ab col dd k0 k1 k2 k3 k5 newId))
    (ini : W.Looks (model prog w) h (typeLookup (.ref C) "__init__") (some (.ref fI))) (bnd : ∀ self, W.Looks (model prog w) h (bindSpecial (.ref fI) self) (.ref fI, [self]))
    (go : codeAny (model prog w) (A.under (.builtin "type.__call__" ⟨[.ref C], kw⟩)) (.call (.ref fI) ⟨[.ref (h.objs.size + 1)], kw⟩) (W.InitBack (h.objs.size + 1) R) ⟨(h.push (W.kdv_tup [])).push (excO C h.objs.size), g, d, t, os⟩) :
    codeAny (model prog w) A (.call (.ref C) ⟨[], kw⟩) R ⟨h, g, d, t, os⟩ := by
  have g1 := tc_lookup
  have g2 := tc_bind (.ref C)
  have ty : (⟨h, g, d, t, os⟩ : Shared).TypeIs (.ref C) "type" := ⟨_, cls, rfl⟩
  refine codeAny_of_tree ?_
  show wpAny _ _ (callAny (.ref C) _) _ _ _
  repeat (any_goals (first | assumption | with_reducible refine wpAny_loadPart_at cls ?_ | wp_step))
  refine ⟨rfl, ?_⟩
  refine codeAny_call_builtin_at (Code.quiet_builtin _ (by decide +kernel)) entry_typeCall (wpAny_check_type_call_sub cls (kw_type F same cls ini bnd ?_))
  refine codeAny_mono go fun r s' z => ?_
  rcases r with e | (v | _ | _ | _) <;> exact z
end
end PySem.HandSPX

set_option maxHeartbeats 4000000
namespace TL
open PySem PySem.Spec PyProof.Rows L2
section
variable {X : Cx} {pins : List (Addr × Obj)} {σ : L2.St} {H : Hp} {s : Shared}
theorem Inv.retag {d : Addr} {fs : List (Str × V)} (I : Inv X pins σ H s) (e : H d = some (exd d fs)) : Inv X pins σ (upd H d (.xd fs)) s := by
  obtain ⟨mA, hns, rel⟩ := exd_at I.hok e
  have ne : ∀ {b : Addr} {u : HO}, H b = some u → u ≠ exd d fs → b ≠ d := fun {b u} q n z => by
    rw [z, e] at q
    exact n (Option.some.inj q).symm
  have nn : ∀ {b : Addr}, H b = none → b ≠ d := fun {b} q z => by
    rw [z, e] at q
    cases q
  have U : Un X.fs [] H (upd H d (.xd fs)) s.heap s.heap := {
    keep := fun b o q _ _ _ => q
    slot := fun b o q _ _ _ => ⟨o.slots, q⟩
    free := fun b o q n _ => by rw [upd_ne (nn n)]; exact n
    there := fun b o q _ => ⟨o, q⟩
    tups := fun b xs q => by rw [upd_ne (ne q fun z => by cases (show HO.tup xs = HO.ext _ from z))]; exact q
    frzs := fun b o u q => by rw [upd_ne (ne q fun z => by cases (show HO.frz o u = HO.ext _ from z))]; exact q
    tbls := fun b ps q => ⟨#[], by rw [upd_ne (ne q fun z => by cases (show HO.tbl ps = HO.ext _ from z)), q]; simp⟩ }
  have K : HOk X.prog X.w (upd H d (.xd fs)) s.heap := fun b u q => by
    by_cases z : b = d
    · subst z
      rw [upd_same] at q
      cases q
      exact ⟨mA, hns, rel⟩
    · rw [upd_ne z] at q
      refine (I.hok b u q).stay (fun _ _ _ y => y) (fun c y => ?_) fun c xs y => ?_
      · rw [upd_ne (ne y fun w => by cases (show HO.own b = HO.ext _ from w))]; exact y
      · rw [upd_ne (ne y fun w => by cases (show HO.tup xs = HO.ext _ from w))]; exact y
  exact Inv.un (t' := s.toks) I U K
def tErr (C : Addr) (sp : Sp) (gV : List V → List V) (ta : TA) : TE := fun σ H Q => ta σ H fun vs H1 => vs.length ≤ 1000 ∧ ∀ a, H1 a = none → sp (.ref a :: gV vs) (upd H1 a (exo a C none))
  (fun v H2 => v = .non ∧ ∃ (d : Addr) (fs : List (Str × V)), H2 a = some (exo a C (some d)) ∧ H2 d = some (exd d fs) ∧ Q (.ref a) (upd H2 d (.xd fs))) (fun _ _ _ => False)
theorem run_err {CX : CXT} {C fI : Addr} {k : Nat} {fd : FuncData} {ps : List Str} {sp : Sp} {ks : List Str} {us ws bs : List Value} {vs : List V} {Q : VK} (T : OexC X.K C) (iC : PySem.W.findIn X.K (.ref C) "__init__" = some (some (.ref fI))) (tI : PySem.W.typeIn X.K (.ref fI) = some (.type "function"))
    (F1 : FnOk X.prog X.w X.K X.mg X.base CX k fI fd ps sp) (hr : Room (k + 1) X.A) (hx : Passes CX X (fun _ _ _ => False)) (I : Inv X pins σ H s) (hu : ks = [] ∨ us = []) (hus : us.length ≤ 1000)
    (bd : ∀ (s1 : Shared) (a : Value), X.K.In s1.heap → BindsTo s1 fd ⟨a :: us, ks.zip ws⟩ (ps.zip (a :: bs))) (r : Vals vs bs)
    (q : ∀ a, H a = none → sp (.ref a :: vs) (upd H a (exo a C none)) (fun v H2 => v = .non ∧ ∃ (d : Addr) (fs : List (Str × V)), H2 a = some (exo a C (some d)) ∧ H2 d = some (exd d fs) ∧ Q (.ref a) (upd H2 d (.xd fs))) (fun _ _ _ => False)) :
    wpAny (model X.prog X.w) X.A (call (.ref C) us (ks.zip ws)) (EP X pins σ Q) X.xe s := by
  obtain ⟨nm, qn, N, bs', bm, sn, sub, ab, col, dd, k0, k1, k2, k3, k5, hC, hbm⟩ := T.cls
  obtain ⟨hp, g, dr, tk, os⟩ := s
  have hsz : hp.objs.size ≤ hp.objs.size + 1 := Nat.le_succ _
  have hn : H (hp.objs.size + 1) = none := I.hok.fresh hsz
  have hq := q (hp.objs.size + 1) hn
  have up : ∀ b o, hp.get? b = some o → ((hp.push (PySem.W.kdv_tup us)).push (PySem.HandSPX.excO C hp.objs.size)).get? b = some o := fun b o e => Heap.get?_push_of_some _ (Heap.get?_push_of_some _ e)
  have at1 : ((hp.push (PySem.W.kdv_tup us)).push (PySem.HandSPX.excO C hp.objs.size)).get? (hp.objs.size + 1) = some (PySem.HandSPX.excO C hp.objs.size) := by heap_get
  have I2 : Inv X pins σ (upd H (hp.objs.size + 1) (exo (hp.objs.size + 1) C none)) ⟨(hp.push (PySem.W.kdv_tup us)).push (PySem.HandSPX.excO C hp.objs.size), g, dr, tk, os⟩ :=
    I.laid (t' := tk) (a := hp.objs.size + 1) (o := exo (hp.objs.size + 1) C none) (h' := (hp.push (PySem.W.kdv_tup us)).push (PySem.HandSPX.excO C hp.objs.size)) up hsz (exo_ok at1)
  have r2 : Vals (V.ref (hp.objs.size + 1) :: vs) (Value.ref (hp.objs.size + 1) :: bs) := .cons rfl r
  have main : codeAny (model X.prog X.w) (X.A.under (.builtin "type.__call__" ⟨.ref C :: us, ks.zip ws⟩)) (.call (.ref fI) ⟨.ref (hp.objs.size + 1) :: us, ks.zip ws⟩)
      (PySem.W.InitBack (hp.objs.size + 1) fun r s' => match r with | .ok (.ret v) => EP X pins σ Q v s' | .ok _ => False | .error x => X.xe x s') ⟨(hp.push (PySem.W.kdv_tup us)).push (PySem.HandSPX.excO C hp.objs.size), g, dr, tk, os⟩ := by
    refine codeAny_mono (F1.run _ X.stack _ _ _ _ _ _ (fun _ _ _ => False) (hr.make C us (ks.zip ws)) (I2.env0.make C us (ks.zip ws)) (bd _ (.ref (hp.objs.size + 1)) I2.kIn) r2 hq) fun o s' back => ?_
    rcases o with er | (u | _ | _ | _)
    · exact hx pins σ _ _ er s' I2 back
    all_goals first
      | exact back.elim
      | (obtain ⟨v, H2, I3, rv, ev, d, fs, ea, ed, q3⟩ := I2.after back
         subst ev
         exact ⟨rv, ⟨V.ref (hp.objs.size + 1), upd H2 d (.xd fs), TL.Inv.retag I3 ed, rfl, q3⟩⟩)
  refine wpAny_call ?_
  rcases hu with rfl | rfl
  · exact PySem.HandSPX.call_own F.excBase_ValueError (fun Y => PySem.HandSPX.refsVE_contains Y bm hbm) (I.kIn _ _ hC) (PySem.W.looks_findIn I.kIn iC) (fun self => PySem.W.bind_fn I.kIn self tI) (by rw [sizeLine_eq]; omega) main
  · exact PySem.HandSPX.kw_call F.excBase_ValueError (fun Y => PySem.HandSPX.refsVE_contains Y bm hbm) (I.kIn _ _ hC) (PySem.W.looks_findIn I.kIn iC) (fun self => PySem.W.bind_fn I.kIn self tI) main
theorem pe_err {CX : CXT} {x : Str} {e : Expr} {es : List Expr} {ta : TA} {p pos : Pos} {C fI : Addr} {k : Nat} {fd : FuncData} {ps : List Str} {sp : Sp} (T : OexC X.K C) (iC : PySem.W.findIn X.K (.ref C) "__init__" = some (some (.ref fI))) (tI : PySem.W.typeIn X.K (.ref fI) = some (.type "function"))
    (F1 : FnOk X.prog X.w X.K X.mg X.base CX k fI fd ps sp) (hr : Room (k + 1) X.A) (hb : Binds X.K fd ps []) (hx : Passes CX X (fun _ _ _ => False)) (hg : Gl X x) (hm : X.mg x = some (.ref C)) (ha : PA X (e :: es) ta)
    (hdb : (x == ("__debug__" : Str)) = false) (he : starEach (e :: es) X.env = (false, eval e X.env) :: starEach es X.env) (hpl : (backTo pos (starEach es X.env)).any (·.1) = false) :
    PE X (.Call (.Name x p) (e :: es) [] pos) (tErr C sp id ta) := by
  refine ⟨fun pins s σ H Q I h => ?_⟩
  refine wpAny_Call_Name_kw (ld_glob I hg hm (PySem.W.callWith_K (h₀ := X.base) I.ok.mod.kin T.kC (thn (ha.run pos pins s σ H _ I h) fun us s1 ⟨vs, H1, I1, r1, hz, q1⟩ => ⟨I1.kIn, ?_⟩) he hpl) hdb)
  refine run_err (ks := []) (ws := []) T iC tI F1 hr hx I1 (.inl rfl) (by have := r1.length; simpa [this] using hz) (fun s2 a kin => ?_) r1 q1
  have hl : (a :: us).length = ps.length := by
    have e := F1.len _ _ _ _ (q1 _ (I1.hok.fresh (Nat.le_refl _)))
    rw [← e, List.length_cons, List.length_cons, ← r1.length]
    rfl
  have b := hb s2 (a :: us) kin (by rw [List.append_nil]; exact hl)
  rw [List.append_nil] at b
  exact b
structure KBe (K : PySem.W.Frag) (fd : FuncData) (ps ks : List Str) (idx : List Nat) : Prop where
  to : ∀ (s : Shared) (a : Value) (ws : List Value), K.In s.heap → ws.length = ks.length → BindsTo s fd ⟨[a], ks.zip ws⟩ (ps.zip (a :: idx.filterMap fun i => ws[i]?))
theorem pe_errK {CX : CXT} {x : Str} {kws : List Keyword} {tk : TA} {p pos : Pos} {C fI : Addr} {k : Nat} {fd : FuncData} {ps ks : List Str} {idx : List Nat} {sp : Sp} (T : OexC X.K C) (iC : PySem.W.findIn X.K (.ref C) "__init__" = some (some (.ref fI))) (tI : PySem.W.typeIn X.K (.ref fI) = some (.type "function"))
    (F1 : FnOk X.prog X.w X.K X.mg X.base CX k fI fd ps sp) (hr : Room (k + 1) X.A) (hb : KBe X.K fd ps ks idx) (hx : Passes CX X (fun _ _ _ => False)) (hg : Gl X x) (hm : X.mg x = some (.ref C)) (hkw : L2.PK X kws tk)
    (hall : (backToKw pos (keywordEach kws X.env)).all (·.1.isSome) = true) (hks : (backToKw pos (keywordEach kws X.env)).filterMap (·.1) = ks) (hdb : (x == ("__debug__" : Str)) = false)
    (hpl : ((backTo pos (starEach [] X.env)).any (·.1) || (backToKw pos (keywordEach kws X.env)).any (·.1.isNone)) = false) :
    PE X (.Call (.Name x p) [] kws pos) (tErr C sp (fun zs => idx.filterMap fun i => zs[i]?) fun σ H Q => tk σ H fun zs H1 => zs.length = ks.length ∧ Q zs H1) := by
  refine ⟨fun pins s σ H Q I h => ?_⟩
  refine wpAny_Call_Name_kw (ld_glob I hg hm (PySem.W.callWith_KW0 (h₀ := X.base) I.ok.mod.kin T.kC hall ?_ hpl) hdb)
  refine thn (hkw.run pos pins s σ H _ I h) fun ws s2 ⟨zs, H2, I2, rz, l2, hz, q2⟩ => ⟨I2.kIn, ?_⟩
  rw [hks]
  exact run_err T iC tI F1 hr hx I2 (.inr rfl) (by simp) (fun s1 a kin => hb.to s1 a ws kin (rz.length.symm.trans l2)) (vals_pick rz idx) q2
def eErr (C : Addr) (f : Str) (a : AM) : EM := fun s h Q E => a s h (fun ts h1 => match ts with
  | [t] => Q (.xob C [(f, t)]) h1
  | _ => False) E
def eErr2 (C : Addr) (f g : Str) (a : AM) : EM := fun s h Q E => a s h (fun ts h1 => match ts with
  | [t, u] => Q (.xob C [(g, u), (f, t)]) h1
  | _ => False) E
theorem err_new {K : PySem.W.Frag} {S : Fz} {H : Hp} {h : Hq} {a dx C : Addr} {fs : List (Str × V)} {gs : List (Str × T)} (m : Sim K S H h) (na : H a = none) (nd : H dx = none) (ne : dx ≠ a) (r : RepF K S H fs gs) :
    ∃ S1, Fut S H S1 (upd (upd H dx (.xd fs)) a (exo a C (some dx))) ∧ Sim K S1 (upd (upd H dx (.xd fs)) a (exo a C (some dx))) h ∧ Rep K S1 (upd (upd H dx (.xd fs)) a (exo a C (some dx))) (.ref a) (.xob C gs) := by
  obtain ⟨m2, f2⟩ := m.frozen (u := .xd fs) nd
  have na2 : upd H dx (.xd fs) a = none := by rw [upd_ne (Ne.symm ne)]; exact na
  obtain ⟨m3, f3⟩ := m2.frozen (u := exo a C (some dx)) na2
  refine ⟨_, f2.trans f3, m3, .xob (.inr rfl) upd_same (fun hp k => ?_) (.inl (.inr rfl)) ((upd_ne ne).trans upd_same) (r.fut (f2.trans f3))⟩
  obtain ⟨t1, e⟩ := k
  exact ⟨_, e, ⟨rfl, rfl⟩, _, rfl⟩
theorem sp1_go {K : PySem.W.Frag} {S S0 : Fz} {H H0 : Hp} {h : Hq} {C : Addr} {f : Str} {v : V} {t : T} {Q : TK} {Q' : VK} {E : XK} (m : Sim K S H h) (r : Rep K S H v t) (pk : PK K S0 H0 Q Q') (fu : Fut S0 H0 S H) (q : Q (.xob C [(f, t)]) h) (o : Addr) (no : H o = none) :
    spInit C f [.ref o, v] (upd H o (exo o C none)) (fun v H2 => v = .non ∧ ∃ (d : Addr) (fs : List (Str × V)), H2 o = some (exo o C (some d)) ∧ H2 d = some (exd d fs) ∧ Q' (.ref o) (upd H2 d (.xd fs))) E := by
  refine ⟨o, v, rfl, upd_same, fun dx ndx ne => ⟨rfl, dx, [(f, v)], upd_same, (upd_ne ne).trans upd_same, ?_⟩⟩
  rw [upd_ne ne] at ndx
  have e1 : upd (upd (upd (upd H o (exo o C none)) dx (exd dx [(f, v)])) o (exo o C (some dx))) dx (.xd [(f, v)]) = upd (upd H dx (.xd [(f, v)])) o (exo o C (some dx)) := by
    funext b
    by_cases c : b = dx
    · rw [c, upd_same, upd_ne ne, upd_same]
    · by_cases c2 : b = o
      · rw [c2, upd_ne (c2 ▸ c), upd_same, upd_same]
      · rw [upd_ne c, upd_ne c2, upd_ne c, upd_ne c2, upd_ne c2, upd_ne c]
  rw [e1]
  obtain ⟨S2, f2, m2, r2⟩ := err_new (C := C) m no ndx ne (.cons r .nil)
  exact pk S2 _ h _ _ (fu.trans f2) m2 r2 q
theorem sp2_go {K : PySem.W.Frag} {S S0 : Fz} {H H0 : Hp} {h : Hq} {C : Addr} {f g : Str} {v u : V} {t y : T} {Q : TK} {Q' : VK} {E : XK} (m : Sim K S H h) (r : Rep K S H v t) (r' : Rep K S H u y) (pk : PK K S0 H0 Q Q') (fu : Fut S0 H0 S H) (q : Q (.xob C [(g, y), (f, t)]) h) (o : Addr) (no : H o = none) :
    spInit2 C f g [.ref o, v, u] (upd H o (exo o C none)) (fun v H2 => v = .non ∧ ∃ (d : Addr) (fs : List (Str × V)), H2 o = some (exo o C (some d)) ∧ H2 d = some (exd d fs) ∧ Q' (.ref o) (upd H2 d (.xd fs))) E := by
  refine ⟨o, v, u, rfl, upd_same, fun dx ndx ne => ⟨rfl, dx, [(g, u), (f, v)], (upd_ne (Ne.symm ne)).trans upd_same, upd_same, ?_⟩⟩
  rw [upd_ne ne] at ndx
  have e1 : upd (upd (upd (upd (upd H o (exo o C none)) dx (exd dx [(f, v)])) o (exo o C (some dx))) dx (exd dx [(g, u), (f, v)])) dx (.xd [(g, u), (f, v)]) = upd (upd H dx (.xd [(g, u), (f, v)])) o (exo o C (some dx)) := by
    funext b
    by_cases c : b = dx
    · rw [c, upd_same, upd_ne ne, upd_same]
    · by_cases c2 : b = o
      · rw [c2, upd_ne (c2 ▸ c), upd_ne (c2 ▸ c), upd_same, upd_same]
      · rw [upd_ne c, upd_ne c, upd_ne c2, upd_ne c, upd_ne c2, upd_ne c2, upd_ne c]
  rw [e1]
  obtain ⟨S2, f2, m2, r2⟩ := err_new (C := C) m no ndx ne (.cons r' (.cons r .nil))
  exact pk S2 _ h _ _ (fu.trans f2) m2 r2 q
section
variable {W : WX}
theorem j_err {x f y : Str} {C fI : Addr} {fd : FuncData} {e : Expr} {es : List Expr} {a : AM} {p pos : Pos} (T : OexC X.K C) (iC : PySem.W.findIn X.K (.ref C) "__init__" = some (some (.ref fI))) (tI : PySem.W.typeIn X.K (.ref fI) = some (.type "function"))
    (F1 : FnOk X.prog X.w X.K X.mg X.base (L2.CX X.prog X.w) 1 fI fd ["self", y] (spInit C f)) (hb : Binds X.K fd ["self", y] []) (hr : Room 2 X.A) (hg : Gl X x) (hm : X.mg x = some (.ref C)) (ha : JA X W (e :: es) a)
    (hdb : (x == ("__debug__" : Str)) = false := by decide) (he : starEach (e :: es) X.env = (false, eval e X.env) :: starEach es X.env := by rfl) (hpl : (backTo pos (starEach es X.env)).any (·.1) = false := by rfl) :
    JE X W (.Call (.Name x p) (e :: es) [] pos) (eErr C f a) := PE.wk (pe_err T iC tI F1 hr hb noPass hg hm ha hdb he hpl) fun σ H Q' ⟨S, h, s, Q, E, mm, rs, lk, hm, pk⟩ =>
  ⟨S, h, s, _, E, mm, rs, lk, hm, fun S1 H1 h1 vs ts f1 m1 r1 q1 => by
    split at q1
    · cases r1 with
      | cons r rn =>
        cases rn
        exact ⟨by simp, sp1_go m1 r pk f1 q1⟩
    · exact q1.elim⟩
theorem j_err2 {x f g y z : Str} {C fI : Addr} {fd : FuncData} {e : Expr} {es : List Expr} {a : AM} {p pos : Pos} (T : OexC X.K C) (iC : PySem.W.findIn X.K (.ref C) "__init__" = some (some (.ref fI))) (tI : PySem.W.typeIn X.K (.ref fI) = some (.type "function"))
    (F1 : FnOk X.prog X.w X.K X.mg X.base (L2.CX X.prog X.w) 1 fI fd ["self", y, z] (spInit2 C f g)) (hb : Binds X.K fd ["self", y, z] []) (hr : Room 2 X.A) (hg : Gl X x) (hm : X.mg x = some (.ref C)) (ha : JA X W (e :: es) a)
    (hdb : (x == ("__debug__" : Str)) = false := by decide) (he : starEach (e :: es) X.env = (false, eval e X.env) :: starEach es X.env := by rfl) (hpl : (backTo pos (starEach es X.env)).any (·.1) = false := by rfl) :
    JE X W (.Call (.Name x p) (e :: es) [] pos) (eErr2 C f g a) := PE.wk (pe_err T iC tI F1 hr hb noPass hg hm ha hdb he hpl) fun σ H Q' ⟨S, h, s, Q, E, mm, rs, lk, hm, pk⟩ =>
  ⟨S, h, s, _, E, mm, rs, lk, hm, fun S1 H1 h1 vs ts f1 m1 r1 q1 => by
    split at q1
    · cases r1 with
      | cons r rn =>
        cases rn with
        | cons r' rn =>
          cases rn
          exact ⟨by simp, sp2_go m1 r r' pk f1 q1⟩
    · exact q1.elim⟩
theorem kbe_of {K : PySem.W.Frag} {x qual : Str} {st : Stmt} {f : Addr} {fd : FuncData} {ps ks : List Str} {idx : List Nat} (F : Fun K x qual st f fd)
    (h : ∀ (kV doc pm : Value) (an : Option Addr) (cdv ct : Value) (a : Value) (ws : List Value), ws.length = ks.length → bindArgs (PySem.W.fnOf x qual (defArgs st) (defBody st) (defScope st) .none kV doc pm an cdv ct) ⟨[a], ks.zip ws⟩ = pure (ps.zip (a :: idx.filterMap fun i => ws[i]?))) : KBe K fd ps ks idx := by
  obtain ⟨oc, od, kV, doc, pm, an, cdv, ct, osl, rfl, lk, hcd⟩ := F.ex
  exact ⟨fun s a ws _ l => .of_eq (h kV doc pm an cdv ct a ws l)⟩
theorem j_errK {x f y : Str} {C fI : Addr} {fd : FuncData} {kws : List Keyword} {a : AM} {p pos : Pos} (T : OexC X.K C) (iC : PySem.W.findIn X.K (.ref C) "__init__" = some (some (.ref fI))) (tI : PySem.W.typeIn X.K (.ref fI) = some (.type "function"))
    (F1 : FnOk X.prog X.w X.K X.mg X.base (L2.CX X.prog X.w) 1 fI fd ["self", y] (spInit C f)) (hb : KBe X.K fd ["self", y] [y] [0]) (hr : Room 2 X.A) (hg : Gl X x) (hm : X.mg x = some (.ref C)) (hkw : JK X W kws a)
    (hall : (backToKw pos (keywordEach kws X.env)).all (·.1.isSome) = true := by rfl) (hks : (backToKw pos (keywordEach kws X.env)).filterMap (·.1) = [y] := by rfl) (hdb : (x == ("__debug__" : Str)) = false := by decide)
    (hpl : ((backTo pos (starEach [] X.env)).any (·.1) || (backToKw pos (keywordEach kws X.env)).any (·.1.isNone)) = false := by rfl) :
    JE X W (.Call (.Name x p) [] kws pos) (eErr C f a) := PE.wk (pe_errK T iC tI F1 hr hb noPass hg hm hkw hall hks hdb hpl) fun σ H Q' ⟨S, h, s, Q, E, mm, rs, lk, hm, pk⟩ =>
  ⟨S, h, s, _, E, mm, rs, lk, hm, fun S1 H1 h1 vs ts f1 m1 r1 q1 => by
    split at q1
    · cases r1 with
      | cons r rn =>
        cases rn
        exact ⟨rfl, by simp, sp1_go m1 r pk f1 q1⟩
    · exact q1.elim⟩
def eErr2K (C : Addr) (f g : Str) (a : AM) : EM := fun s h Q E => a s h (fun ts h1 => match ts with
  | [u, t] => Q (.xob C [(g, u), (f, t)]) h1
  | _ => False) E
theorem j_err2K {x f g y z : Str} {C fI : Addr} {fd : FuncData} {kws : List Keyword} {a : AM} {p pos : Pos} (T : OexC X.K C) (iC : PySem.W.findIn X.K (.ref C) "__init__" = some (some (.ref fI))) (tI : PySem.W.typeIn X.K (.ref fI) = some (.type "function"))
    (F1 : FnOk X.prog X.w X.K X.mg X.base (L2.CX X.prog X.w) 1 fI fd ["self", y, z] (spInit2 C f g)) (hb : KBe X.K fd ["self", y, z] [z, y] [1, 0]) (hr : Room 2 X.A) (hg : Gl X x) (hm : X.mg x = some (.ref C)) (hkw : JK X W kws a)
    (hall : (backToKw pos (keywordEach kws X.env)).all (·.1.isSome) = true := by rfl) (hks : (backToKw pos (keywordEach kws X.env)).filterMap (·.1) = [z, y] := by rfl) (hdb : (x == ("__debug__" : Str)) = false := by decide)
    (hpl : ((backTo pos (starEach [] X.env)).any (·.1) || (backToKw pos (keywordEach kws X.env)).any (·.1.isNone)) = false := by rfl) :
    JE X W (.Call (.Name x p) [] kws pos) (eErr2K C f g a) := PE.wk (pe_errK T iC tI F1 hr hb noPass hg hm hkw hall hks hdb hpl) fun σ H Q' ⟨S, h, s, Q, E, mm, rs, lk, hm, pk⟩ =>
  ⟨S, h, s, _, E, mm, rs, lk, hm, fun S1 H1 h1 vs ts f1 m1 r1 q1 => by
    split at q1
    · cases r1 with
      | cons r' rn =>
        cases rn with
        | cons r rn =>
          cases rn
          exact ⟨rfl, by simp, sp2_go m1 r r' pk f1 q1⟩
    · exact q1.elim⟩
theorem j_err2N {x f g y z : Str} {C fI : Addr} {fd : FuncData} {kws : List Keyword} {a : AM} {p pos : Pos} (T : OexC X.K C) (iC : PySem.W.findIn X.K (.ref C) "__init__" = some (some (.ref fI))) (tI : PySem.W.typeIn X.K (.ref fI) = some (.type "function"))
    (F1 : FnOk X.prog X.w X.K X.mg X.base (L2.CX X.prog X.w) 1 fI fd ["self", y, z] (spInit2 C f g)) (hb : KBe X.K fd ["self", y, z] [y, z] [0, 1]) (hr : Room 2 X.A) (hg : Gl X x) (hm : X.mg x = some (.ref C)) (hkw : JK X W kws a)
    (hall : (backToKw pos (keywordEach kws X.env)).all (·.1.isSome) = true := by rfl) (hks : (backToKw pos (keywordEach kws X.env)).filterMap (·.1) = [y, z] := by rfl) (hdb : (x == ("__debug__" : Str)) = false := by decide)
    (hpl : ((backTo pos (starEach [] X.env)).any (·.1) || (backToKw pos (keywordEach kws X.env)).any (·.1.isNone)) = false := by rfl) :
    JE X W (.Call (.Name x p) [] kws pos) (eErr2 C f g a) := PE.wk (pe_errK T iC tI F1 hr hb noPass hg hm hkw hall hks hdb hpl) fun σ H Q' ⟨S, h, s, Q, E, mm, rs, lk, hm, pk⟩ =>
  ⟨S, h, s, _, E, mm, rs, lk, hm, fun S1 H1 h1 vs ts f1 m1 r1 q1 => by
    split at q1
    · cases r1 with
      | cons r rn =>
        cases rn with
        | cons r' rn =>
          cases rn
          exact ⟨rfl, by simp, sp2_go m1 r r' pk f1 q1⟩
    · exact q1.elim⟩
def tXob (K : PySem.W.Frag) (f : Str) (te : TE) : TE := fun σ H Q => te σ H fun x H1 => ∃ (a C d : Addr) (φ : Heap → Prop) (fs : List (Str × V)) (v : V), x = .ref a ∧ H1 a = some (.ext φ) ∧ XOk φ a C d ∧ H1 d = some (.xd fs) ∧ XfC K C ∧ PySem.W.findIn K (.ref C) f = some none ∧ fs.lookup f = some v ∧ Q v H1
theorem pe_xob {e : Expr} {te : TE} {pos : Pos} {n : Str} (he : PE X e te) (hb : attributeBase e n X.env (eval e X.env) = eval e X.env) : PE X (.Attribute e n pos) (tXob X.K n te) := by
  refine ⟨fun pins s σ H Q I h => ?_⟩
  refine attr_of hb (thn (he.run pins s σ H _ I h) fun u s1 ⟨x, H1, I1, rx, a, C, d, φ, fs, v, ex, ea, xok, ed, T, hno, l, q⟩ => ?_)
  subst ex
  obtain rfl : u = Value.ref a := rx
  obtain ⟨hφ, _⟩ : ObjOk X.prog X.w H1 s1.heap a (.ext φ) := I1.hok a _ ea
  obtain ⟨oe, hget, hz, vs, hv⟩ := xok s1.heap hφ
  obtain ⟨mA, hns, hr⟩ : ObjOk X.prog X.w H1 s1.heap d (.xd fs) := I1.hok d _ ed
  obtain ⟨od, ho, hl⟩ := lookIn_ns hns
  obtain ⟨u, hu, ru⟩ := RelO.some_of (v := v) (o := mA n) (by rw [← l]; exact hr n)
  have at1 : PySem.W.InstAt s1.heap a oe C (some od) := ⟨hget, hz.1, by unfold PySem.W.notCls; rw [hv] <;> rfl, by rw [hz.2]; exact ho⟩
  exact HandSPX.exc_get I1.kIn at1 T.ga T.gg T.exC (PySem.W.findObj_own T.hdC hno rfl (by rw [hl, hu])) (handed_of ru) ⟨v, H1, I1.tok _, ru, q⟩
def eXob (K : PySem.W.Frag) (f : Str) (m : EM) : EM := fun s h Q E => m s h (fun x h1 => match x with
  | .xob C gs => XfC K C ∧ PySem.W.findIn K (.ref C) f = some none ∧ match gs.lookup f with
    | some t => Q t h1
    | none => False
  | _ => False) E
theorem j_xob {e : Expr} {m : EM} {pos : Pos} {f : Str} (he : JE X W e m) (hb : attributeBase e f X.env (eval e X.env) = eval e X.env := by rfl) : JE X W (.Attribute e f pos) (eXob X.K f m) := PE.wk (pe_xob he hb) fun σ H Q' ⟨S, h, s, Q, E, mm, rs, lk, hm, pk⟩ =>
  ⟨S, h, s, _, E, mm, rs, lk, hm, fun S1 H1 h1 v x f1 m1 r1 q1 => by
    cases r1 with
    | xob s1 e1 xk s2 e2 rf =>
      obtain ⟨hX, hno, q2⟩ := q1
      split at q2
      · rename_i t et
        obtain ⟨v, ev, rv⟩ := rf.look et
        exact ⟨_, _, _, _, _, v, rfl, e1, xk, e2, hX, hno, ev, pk S1 H1 h1 _ _ f1 m1 rv q2⟩
      · exact q2.elim
    | _ => exact q1.elim⟩
end
def rIsXT (K : PySem.W.Frag) : List V → Hp → VK → Prop := fun xs H Q => ∃ (a D dd : Addr) (n : String) (b : Bool) (φ : Heap → Prop) (fs : List (Str × V)), xs = [.ref a, .ty n] ∧ H a = some (.ext φ) ∧ XOk φ a D dd ∧ H dd = some (.xd fs) ∧ ExcC K D ∧ PySem.W.kitOne K (.ref D) (.type n) = some b ∧ Q (.bl b) H
theorem call_isXT : CallR X (.builtin "isinstance") (rIsXT X.K) := by
  intro pins s σ H xs us Q I r ⟨a, D, dd, n, b, φ, fs, ex, eH, xok, e2, C, e, q⟩
  subst ex
  cases r with
  | cons rx rr =>
    cases rr with
    | cons rt rr =>
      cases rr
      cases rx
      cases rt
      obtain ⟨hφ, _⟩ : ObjOk X.prog X.w H s.heap a (.ext φ) := I.hok a _ eH
      obtain ⟨oe, hget, hz, vs, hv⟩ := xok s.heap hφ
      have J : ∃ od, PySem.W.InstAt s.heap a oe D od := by
        obtain ⟨oc, o2, oda, sl⟩ := oe
        obtain ⟨h1, h2⟩ := hz
        dsimp only at h1 h2 hv
        subst h1 h2 hv
        obtain ⟨mA, hns, hr⟩ : ObjOk X.prog X.w H s.heap dd (.xd fs) := I.hok dd _ e2
        obtain ⟨o3, ho, hl⟩ := lookIn_ns hns
        exact ⟨some o3, hget, rfl, rfl, ho⟩
      obtain ⟨o2, J⟩ := J
      have hcl : (PySem.W.clsIn X.K D).isSome = true := by
        obtain ⟨cd, hc, _⟩ := PySem.W.any_some C.hd
        rw [hc]; rfl
      exact PySem.W.kia_one (PySem.W.kitx_exc hcl C.hg C.hk C.hs C.ha C.hn C.ht C.hm) I.kIn J e (fun z => nomatch z) fun tk => ⟨.bl b, H, I.kept (t' := tk) fun _ _ z => z, rfl, q⟩
def oIsXT (K : PySem.W.Frag) : RLT := fun xs h Q => match xs with
  | [.xob D _, .ty n] => ∃ b, ExcC K D ∧ PySem.W.kitOne K (.ref D) (.type n) = some b ∧ Q (.bl b) h
  | _ => False
theorem c_isXT {K : PySem.W.Frag} : CP K (rIsXT K) (oIsXT K) := fun S H h vs xs Q Q' m r q pk => by
  unfold oIsXT at q
  split at q
  · obtain ⟨b, C, e, q⟩ := q
    cases r with
    | cons r1 r =>
      cases r with
      | cons r2 r =>
        cases r
        cases r2
        cases r1 with
        | xob s1 e1 xk s2 e2 _ => exact ⟨_, _, _, _, b, _, _, rfl, e1, xk, e2, C, e, pk S H h _ _ Fut.refl m (.bl b) q⟩
  · exact q.elim
def SameV (K : PySem.W.Frag) (H : Hp) (x y : V) : Prop := (∃ a, x = .ref a ∧ y = .ref a) ∨ ∃ d, Dp K H x d ∧ Dp K H y d ∧ SeqAt.shaped d = true ∧ d.depth ≤ 60 ∧ PyData.eqv d d = true
def rNeS (K : PySem.W.Frag) : R2 := fun x y H Q => ∃ (a b : Addr) (xs ys : List V), x = .ref a ∧ y = .ref b ∧ SqL K H a xs ∧ SqL K H b ys ∧ xs.length = ys.length ∧ (∀ (j : Nat) (x y : V), xs[j]? = some x → ys[j]? = some y → SameV K H x y) ∧ Q (.bl false) H
theorem op_neS (hu : X.A.units + 64 < cLine) : OpR X (compareOp .NotEq) (rNeS X.K) := by
  intro pins s σ H x y v u Q I rx ry ⟨a, b, xs, ys, ex, ey, ha, hb, hl, hp, q⟩
  subst ex ey
  cases (show v = Value.ref a from rx)
  cases (show u = Value.ref b from ry)
  obtain ⟨us, r1, p1, _⟩ := I.list ha
  obtain ⟨ws, r2, p2, _⟩ := I.list hb
  have l1 := r1.length
  have l2 := r2.length
  have k := SeqAt.RcNeAt.lists (A := X.A) (e := fun _ => true) p1.isList p2.isList (by rw [List.size_toArray, List.size_toArray]; omega) (by omega) (fun j h1 h2 => by
    have j1 : j < us.length := by simpa using h1
    have j2 : j < ws.length := by simpa using h2
    have e1 : xs[j]? = some xs[j] := List.getElem?_eq_getElem (by omega)
    have e2 : ys[j]? = some ys[j] := List.getElem?_eq_getElem (by omega)
    obtain ⟨u1, f1, g1⟩ := r1.get e1
    obtain ⟨w1, f2, g2⟩ := r2.get e2
    have d1 : us.toArray[j] = u1 := by
      have := List.getElem?_eq_getElem j1
      rw [f1] at this
      simpa using (Option.some.inj this).symm
    have d2 : ws.toArray[j] = w1 := by
      have := List.getElem?_eq_getElem j2
      rw [f2] at this
      simpa using (Option.some.inj this).symm
    rw [d1, d2]
    rcases hp j _ _ e1 e2 with ⟨c, c1, c2⟩ | ⟨d, c1, c2, sh, dp, ev⟩
    · rw [c1] at g1
      rw [c2] at g2
      cases (show u1 = Value.ref c from g1)
      cases (show w1 = Value.ref c from g2)
      exact SeqAt.EqAt.same _
    · obtain ⟨as, z1⟩ := Dp.reads I d _ _ c1 g1
      obtain ⟨bs, z2⟩ := Dp.reads I d _ _ c2 g2
      rw [← ev]
      exact SeqAt.eqAt_reads d d X.A.in1 s u1 w1 as bs z1 z2 (SeqAt.canLay_of_shaped sh) (SeqAt.canLay_of_shaped sh) (by show X.A.units + 1 + _ < _; omega))
  refine k X.prog X.w _ _ ?_
  rw [show ((List.range us.toArray.size).all fun _ => true) = true from List.all_eq_true.mpr fun _ _ => rfl]
  exact ⟨.bl false, H, I, rfl, q⟩
def sameOk (t : T) : Prop := (∃ a, t = .ref a) ∨ ∃ d, toD t = some d ∧ d.depth ≤ 60 ∧ PyData.eqv d d = true
def oNeS : R2T := fun x y h Q => ∃ ts, lsOf h x = some ts ∧ lsOf h y = some ts ∧ (∀ t ∈ ts, sameOk t) ∧ Q (.bl false) h
theorem p_neS {K : PySem.W.Frag} : OP K (rNeS K) oNeS := fun S H h v w x y Q Q' m r1 r2 ⟨ts, e1, e2, ok, q⟩ pk => by
  obtain ⟨a, vs, rfl, ha, ra⟩ := lsOf_ok m r1 e1
  obtain ⟨b, ws, rfl, hb, rb⟩ := lsOf_ok m r2 e2
  refine ⟨a, b, vs, ws, rfl, rfl, SqL.of ha, SqL.of hb, ra.length.trans rb.length.symm, fun j x y ex ey => ?_, pk S H h _ _ Fut.refl m (.bl false) q⟩
  have lt : j < ts.length := by rw [← ra.length]; exact (List.getElem?_eq_some_iff.mp ex).1
  have et : ts[j]? = some ts[j] := List.getElem?_eq_getElem lt
  obtain ⟨x', ex', rx⟩ := ra.get et
  obtain ⟨y', ey', ry⟩ := rb.get et
  rw [ex] at ex'
  rw [ey] at ey'
  cases ex'
  cases ey'
  have kt := ok _ (List.getElem_mem lt)
  revert rx ry kt
  generalize ts[j] = t
  intro rx ry kt
  rcases kt with ⟨c, rfl⟩ | ⟨d, ed, dd, ev⟩
  · cases rx
    cases ry
    exact .inl ⟨c, rfl, rfl⟩
  · obtain ⟨a1, a2⟩ := toD_ok rx ed
    exact .inr ⟨d, a1, (toD_ok ry ed).1, by unfold SeqAt.shaped; rw [a2]; simp; omega, dd, ev⟩
end
end TL

namespace TL
open PySem L2
section
variable {K : PySem.W.Frag} {S : Fz} {H : Hp} {h : Hq}
end
end TL

set_option maxHeartbeats 4000000
namespace TL
open PySem L2
def topS (i : Nat) : Stmt := PySem.Challenge.pw_grownfiles_k32_errors.main.body.getD i (.Pass ⟨0, 0, 0, 0⟩)
abbrev s_law_hand : Stmt := topS 30
abbrev N_law_hand : List Str := ["_law_script", "_law_k", "_law_cell", "_law_seed"]
abbrev s_law_draw : Stmt := topS 31
abbrev N_law_draw : List Str := ["_law_pool", "_law_limit", "_law_found"]
abbrev s_law_objects : Stmt := topS 32
abbrev N_law_objects : List Str := ["_law_held", "_law_other", "_law_found"]
abbrev s_law_classes : Stmt := topS 33
abbrev N_law_classes : List Str := ["_law_one", "_law_found"]
abbrev s_law_fields : Stmt := topS 34
abbrev N_law_fields : List Str := ["_law_held", "_law_found"]
abbrev s_law_placed : Stmt := topS 35
abbrev N_law_placed : List Str := ["_law_held", "_law_found"]
abbrev s_law : Stmt := topS 36
abbrev N_law : List Str := ["_law_script", "_law_k", "_law_pool", "_law_turn", "_law_some", "_law_held", "_law_place", "_law_one", "_law_j"]
abbrev si_TooMany : Stmt := inClass (topS 28) 0
abbrev si_Refused : Stmt := inClass (topS 14) 0
abbrev si_NotDone : Stmt := inClass (topS 17) 0
abbrev si_NotClosed : Stmt := inClass (topS 24) 0
abbrev si_Refusable : Stmt := inClass (topS 25) 0
abbrev si_InvalidChoice : Stmt := inClass (topS 26) 0
abbrev si_UnknownSet : Stmt := inClass (topS 27) 0
abbrev si_InvalidCommand : Stmt := inClass (topS 20) 0
abbrev si_InvalidSizes : Stmt := inClass (topS 21) 0
abbrev si_InvalidState : Stmt := inClass (topS 22) 0
abbrev si_InvalidTable : Stmt := inClass (topS 23) 0
abbrev si_InvalidEvent : Stmt := inClass (topS 15) 0
abbrev si_InvalidRow : Stmt := inClass (topS 16) 0
abbrev si_InvalidLine : Stmt := inClass (topS 18) 0
abbrev si_NothingLeft : Stmt := inClass (topS 19) 0
abbrev si_KnownName : Stmt := inClass (topS 10) 0
abbrev si_UnknownName : Stmt := inClass (topS 11) 0
abbrev si_Closed : Stmt := inClass (topS 12) 0
abbrev si_Opened : Stmt := inClass (topS 13) 0
abbrev si_InvalidNumber : Stmt := inClass (topS 6) 0
abbrev si_InvalidRule : Stmt := inClass (topS 7) 0
abbrev si_InvalidDisk : Stmt := inClass (topS 8) 0
abbrev si_InvalidName : Stmt := inClass (topS 9) 0
abbrev si_InvalidRuns : Stmt := inClass (topS 2) 0
abbrev si_InvalidBlock : Stmt := inClass (topS 3) 0
abbrev si_InvalidText : Stmt := inClass (topS 4) 0
abbrev si_InvalidBook : Stmt := inClass (topS 5) 0
structure Ad where
  f_law_hand : Addr
  d_law_hand : FuncData
  f_law_draw : Addr
  d_law_draw : FuncData
  f_law_objects : Addr
  d_law_objects : FuncData
  f_law_classes : Addr
  d_law_classes : FuncData
  f_law_fields : Addr
  d_law_fields : FuncData
  f_law_placed : Addr
  d_law_placed : FuncData
  f_law : Addr
  d_law : FuncData
  c_TooMany : Addr
  c_GrowError : Addr
  c_Refused : Addr
  c_NotDone : Addr
  c_NotClosed : Addr
  c_Refusable : Addr
  c_InvalidChoice : Addr
  c_UnknownSet : Addr
  c_InvalidCommand : Addr
  c_InvalidSizes : Addr
  c_InvalidState : Addr
  c_InvalidTable : Addr
  c_InvalidEvent : Addr
  c_InvalidRow : Addr
  c_InvalidLine : Addr
  c_NothingLeft : Addr
  c_KnownName : Addr
  c_UnknownName : Addr
  c_Closed : Addr
  c_Opened : Addr
  c_InvalidNumber : Addr
  c_InvalidRule : Addr
  c_InvalidDisk : Addr
  c_InvalidName : Addr
  c_InvalidRuns : Addr
  c_InvalidBlock : Addr
  c_InvalidText : Addr
  c_InvalidBook : Addr
  i_TooMany : Addr
  e_TooMany : FuncData
  i_Refused : Addr
  e_Refused : FuncData
  i_NotDone : Addr
  e_NotDone : FuncData
  i_NotClosed : Addr
  e_NotClosed : FuncData
  i_Refusable : Addr
  e_Refusable : FuncData
  i_InvalidChoice : Addr
  e_InvalidChoice : FuncData
  i_UnknownSet : Addr
  e_UnknownSet : FuncData
  i_InvalidCommand : Addr
  e_InvalidCommand : FuncData
  i_InvalidSizes : Addr
  e_InvalidSizes : FuncData
  i_InvalidState : Addr
  e_InvalidState : FuncData
  i_InvalidTable : Addr
  e_InvalidTable : FuncData
  i_InvalidEvent : Addr
  e_InvalidEvent : FuncData
  i_InvalidRow : Addr
  e_InvalidRow : FuncData
  i_InvalidLine : Addr
  e_InvalidLine : FuncData
  i_NothingLeft : Addr
  e_NothingLeft : FuncData
  i_KnownName : Addr
  e_KnownName : FuncData
  i_UnknownName : Addr
  e_UnknownName : FuncData
  i_Closed : Addr
  e_Closed : FuncData
  i_Opened : Addr
  e_Opened : FuncData
  i_InvalidNumber : Addr
  e_InvalidNumber : FuncData
  i_InvalidRule : Addr
  e_InvalidRule : FuncData
  i_InvalidDisk : Addr
  e_InvalidDisk : FuncData
  i_InvalidName : Addr
  e_InvalidName : FuncData
  i_InvalidRuns : Addr
  e_InvalidRuns : FuncData
  i_InvalidBlock : Addr
  e_InvalidBlock : FuncData
  i_InvalidText : Addr
  e_InvalidText : FuncData
  i_InvalidBook : Addr
  e_InvalidBook : FuncData
structure Tx (K : PySem.W.Frag) (mg : Str → Option Value) (a : Ad) : Prop where
  F_law_hand : Fun K "_law_hand" "_law_hand" s_law_hand a.f_law_hand a.d_law_hand
  b_law_hand : Binds K a.d_law_hand ["_law_script", "_law_k"] []
  g_law_hand : mg "_law_hand" = some (.ref a.f_law_hand)
  F_law_draw : Fun K "_law_draw" "_law_draw" s_law_draw a.f_law_draw a.d_law_draw
  b_law_draw : Binds K a.d_law_draw ["_law_pool", "_law_limit"] []
  g_law_draw : mg "_law_draw" = some (.ref a.f_law_draw)
  F_law_objects : Fun K "_law_objects" "_law_objects" s_law_objects a.f_law_objects a.d_law_objects
  b_law_objects : Binds K a.d_law_objects ["_law_held", "_law_other"] []
  g_law_objects : mg "_law_objects" = some (.ref a.f_law_objects)
  F_law_classes : Fun K "_law_classes" "_law_classes" s_law_classes a.f_law_classes a.d_law_classes
  b_law_classes : Binds K a.d_law_classes ["_law_one"] []
  g_law_classes : mg "_law_classes" = some (.ref a.f_law_classes)
  F_law_fields : Fun K "_law_fields" "_law_fields" s_law_fields a.f_law_fields a.d_law_fields
  b_law_fields : Binds K a.d_law_fields ["_law_held"] []
  g_law_fields : mg "_law_fields" = some (.ref a.f_law_fields)
  F_law_placed : Fun K "_law_placed" "_law_placed" s_law_placed a.f_law_placed a.d_law_placed
  b_law_placed : Binds K a.d_law_placed ["_law_held"] []
  g_law_placed : mg "_law_placed" = some (.ref a.f_law_placed)
  F_law : Fun K "law" "law" s_law a.f_law a.d_law
  b_law : Binds K a.d_law ["_law_script"] []
  g_law : mg "law" = some (.ref a.f_law)
  g_TooMany : mg "TooMany" = some (.ref a.c_TooMany)
  g_GrowError : mg "GrowError" = some (.ref a.c_GrowError)
  g_Refused : mg "Refused" = some (.ref a.c_Refused)
  g_NotDone : mg "NotDone" = some (.ref a.c_NotDone)
  g_NotClosed : mg "NotClosed" = some (.ref a.c_NotClosed)
  g_Refusable : mg "Refusable" = some (.ref a.c_Refusable)
  g_InvalidChoice : mg "InvalidChoice" = some (.ref a.c_InvalidChoice)
  g_UnknownSet : mg "UnknownSet" = some (.ref a.c_UnknownSet)
  g_InvalidCommand : mg "InvalidCommand" = some (.ref a.c_InvalidCommand)
  g_InvalidSizes : mg "InvalidSizes" = some (.ref a.c_InvalidSizes)
  g_InvalidState : mg "InvalidState" = some (.ref a.c_InvalidState)
  g_InvalidTable : mg "InvalidTable" = some (.ref a.c_InvalidTable)
  g_InvalidEvent : mg "InvalidEvent" = some (.ref a.c_InvalidEvent)
  g_InvalidRow : mg "InvalidRow" = some (.ref a.c_InvalidRow)
  g_InvalidLine : mg "InvalidLine" = some (.ref a.c_InvalidLine)
  g_NothingLeft : mg "NothingLeft" = some (.ref a.c_NothingLeft)
  g_KnownName : mg "KnownName" = some (.ref a.c_KnownName)
  g_UnknownName : mg "UnknownName" = some (.ref a.c_UnknownName)
  g_Closed : mg "Closed" = some (.ref a.c_Closed)
  g_Opened : mg "Opened" = some (.ref a.c_Opened)
  g_InvalidNumber : mg "InvalidNumber" = some (.ref a.c_InvalidNumber)
  g_InvalidRule : mg "InvalidRule" = some (.ref a.c_InvalidRule)
  g_InvalidDisk : mg "InvalidDisk" = some (.ref a.c_InvalidDisk)
  g_InvalidName : mg "InvalidName" = some (.ref a.c_InvalidName)
  g_InvalidRuns : mg "InvalidRuns" = some (.ref a.c_InvalidRuns)
  g_InvalidBlock : mg "InvalidBlock" = some (.ref a.c_InvalidBlock)
  g_InvalidText : mg "InvalidText" = some (.ref a.c_InvalidText)
  g_InvalidBook : mg "InvalidBook" = some (.ref a.c_InvalidBook)
  o_TooMany : OexC K a.c_TooMany
  i_TooMany : PySem.W.findIn K (.ref a.c_TooMany) "__init__" = some (some (.ref a.i_TooMany))
  t_TooMany : PySem.W.typeIn K (.ref a.i_TooMany) = some (.type "function")
  n_TooMany : PySem.W.findIn K (.ref a.c_TooMany) "number" = some none
  FI_TooMany : Fun K "__init__" "TooMany.__init__" si_TooMany a.i_TooMany a.e_TooMany
  BI_TooMany : Binds K a.e_TooMany ["self", "number"] []
  x_TooMany : XfC K a.c_TooMany
  q_TooMany : ExcC K a.c_TooMany
  k_TooMany_ValueError : PySem.W.kitOne K (.ref a.c_TooMany) (.type "ValueError") = some true
  KE_TooMany : KBe K a.e_TooMany ["self", "number"] ["number"] [0]
  k_TooMany_TooMany : PySem.W.kitOne K (.ref a.c_TooMany) (.ref a.c_TooMany) = some true
  k_TooMany_Refused : PySem.W.kitOne K (.ref a.c_TooMany) (.ref a.c_Refused) = some false
  k_TooMany_NotDone : PySem.W.kitOne K (.ref a.c_TooMany) (.ref a.c_NotDone) = some false
  k_TooMany_Refusable : PySem.W.kitOne K (.ref a.c_TooMany) (.ref a.c_Refusable) = some false
  k_TooMany_InvalidChoice : PySem.W.kitOne K (.ref a.c_TooMany) (.ref a.c_InvalidChoice) = some false
  k_TooMany_UnknownSet : PySem.W.kitOne K (.ref a.c_TooMany) (.ref a.c_UnknownSet) = some false
  k_TooMany_InvalidState : PySem.W.kitOne K (.ref a.c_TooMany) (.ref a.c_InvalidState) = some false
  k_TooMany_InvalidTable : PySem.W.kitOne K (.ref a.c_TooMany) (.ref a.c_InvalidTable) = some false
  k_TooMany_NotClosed : PySem.W.kitOne K (.ref a.c_TooMany) (.ref a.c_NotClosed) = some false
  k_TooMany_NothingLeft : PySem.W.kitOne K (.ref a.c_TooMany) (.ref a.c_NothingLeft) = some false
  k_TooMany_InvalidCommand : PySem.W.kitOne K (.ref a.c_TooMany) (.ref a.c_InvalidCommand) = some false
  k_TooMany_InvalidSizes : PySem.W.kitOne K (.ref a.c_TooMany) (.ref a.c_InvalidSizes) = some false
  k_TooMany_InvalidEvent : PySem.W.kitOne K (.ref a.c_TooMany) (.ref a.c_InvalidEvent) = some false
  k_TooMany_InvalidRow : PySem.W.kitOne K (.ref a.c_TooMany) (.ref a.c_InvalidRow) = some false
  k_TooMany_InvalidLine : PySem.W.kitOne K (.ref a.c_TooMany) (.ref a.c_InvalidLine) = some false
  k_TooMany_UnknownName : PySem.W.kitOne K (.ref a.c_TooMany) (.ref a.c_UnknownName) = some false
  k_TooMany_Closed : PySem.W.kitOne K (.ref a.c_TooMany) (.ref a.c_Closed) = some false
  k_TooMany_Opened : PySem.W.kitOne K (.ref a.c_TooMany) (.ref a.c_Opened) = some false
  k_TooMany_InvalidDisk : PySem.W.kitOne K (.ref a.c_TooMany) (.ref a.c_InvalidDisk) = some false
  k_TooMany_InvalidName : PySem.W.kitOne K (.ref a.c_TooMany) (.ref a.c_InvalidName) = some false
  k_TooMany_KnownName : PySem.W.kitOne K (.ref a.c_TooMany) (.ref a.c_KnownName) = some false
  k_TooMany_InvalidBook : PySem.W.kitOne K (.ref a.c_TooMany) (.ref a.c_InvalidBook) = some false
  k_TooMany_InvalidNumber : PySem.W.kitOne K (.ref a.c_TooMany) (.ref a.c_InvalidNumber) = some false
  k_TooMany_InvalidRule : PySem.W.kitOne K (.ref a.c_TooMany) (.ref a.c_InvalidRule) = some false
  k_TooMany_InvalidRuns : PySem.W.kitOne K (.ref a.c_TooMany) (.ref a.c_InvalidRuns) = some false
  k_TooMany_InvalidBlock : PySem.W.kitOne K (.ref a.c_TooMany) (.ref a.c_InvalidBlock) = some false
  k_TooMany_InvalidText : PySem.W.kitOne K (.ref a.c_TooMany) (.ref a.c_InvalidText) = some false
  k_TooMany_GrowError : PySem.W.kitOne K (.ref a.c_TooMany) (.ref a.c_GrowError) = some true
  o_Refused : OexC K a.c_Refused
  i_Refused : PySem.W.findIn K (.ref a.c_Refused) "__init__" = some (some (.ref a.i_Refused))
  t_Refused : PySem.W.typeIn K (.ref a.i_Refused) = some (.type "function")
  n_Refused : PySem.W.findIn K (.ref a.c_Refused) "name" = some none
  FI_Refused : Fun K "__init__" "Refused.__init__" si_Refused a.i_Refused a.e_Refused
  BI_Refused : Binds K a.e_Refused ["self", "name", "need"] []
  x_Refused : XfC K a.c_Refused
  q_Refused : ExcC K a.c_Refused
  n2_Refused : PySem.W.findIn K (.ref a.c_Refused) "need" = some none
  k_Refused_ValueError : PySem.W.kitOne K (.ref a.c_Refused) (.type "ValueError") = some true
  KE_Refused : KBe K a.e_Refused ["self", "name", "need"] ["need", "name"] [1, 0]
  KF_Refused : KBe K a.e_Refused ["self", "name", "need"] ["name", "need"] [0, 1]
  k_Refused_TooMany : PySem.W.kitOne K (.ref a.c_Refused) (.ref a.c_TooMany) = some false
  k_Refused_Refused : PySem.W.kitOne K (.ref a.c_Refused) (.ref a.c_Refused) = some true
  k_Refused_NotDone : PySem.W.kitOne K (.ref a.c_Refused) (.ref a.c_NotDone) = some false
  k_Refused_Refusable : PySem.W.kitOne K (.ref a.c_Refused) (.ref a.c_Refusable) = some false
  k_Refused_InvalidChoice : PySem.W.kitOne K (.ref a.c_Refused) (.ref a.c_InvalidChoice) = some false
  k_Refused_UnknownSet : PySem.W.kitOne K (.ref a.c_Refused) (.ref a.c_UnknownSet) = some false
  k_Refused_InvalidState : PySem.W.kitOne K (.ref a.c_Refused) (.ref a.c_InvalidState) = some false
  k_Refused_InvalidTable : PySem.W.kitOne K (.ref a.c_Refused) (.ref a.c_InvalidTable) = some false
  k_Refused_NotClosed : PySem.W.kitOne K (.ref a.c_Refused) (.ref a.c_NotClosed) = some false
  k_Refused_NothingLeft : PySem.W.kitOne K (.ref a.c_Refused) (.ref a.c_NothingLeft) = some false
  k_Refused_InvalidCommand : PySem.W.kitOne K (.ref a.c_Refused) (.ref a.c_InvalidCommand) = some false
  k_Refused_InvalidSizes : PySem.W.kitOne K (.ref a.c_Refused) (.ref a.c_InvalidSizes) = some false
  k_Refused_InvalidEvent : PySem.W.kitOne K (.ref a.c_Refused) (.ref a.c_InvalidEvent) = some false
  k_Refused_InvalidRow : PySem.W.kitOne K (.ref a.c_Refused) (.ref a.c_InvalidRow) = some false
  k_Refused_InvalidLine : PySem.W.kitOne K (.ref a.c_Refused) (.ref a.c_InvalidLine) = some false
  k_Refused_UnknownName : PySem.W.kitOne K (.ref a.c_Refused) (.ref a.c_UnknownName) = some false
  k_Refused_Closed : PySem.W.kitOne K (.ref a.c_Refused) (.ref a.c_Closed) = some false
  k_Refused_Opened : PySem.W.kitOne K (.ref a.c_Refused) (.ref a.c_Opened) = some false
  k_Refused_InvalidDisk : PySem.W.kitOne K (.ref a.c_Refused) (.ref a.c_InvalidDisk) = some false
  k_Refused_InvalidName : PySem.W.kitOne K (.ref a.c_Refused) (.ref a.c_InvalidName) = some false
  k_Refused_KnownName : PySem.W.kitOne K (.ref a.c_Refused) (.ref a.c_KnownName) = some false
  k_Refused_InvalidBook : PySem.W.kitOne K (.ref a.c_Refused) (.ref a.c_InvalidBook) = some false
  k_Refused_InvalidNumber : PySem.W.kitOne K (.ref a.c_Refused) (.ref a.c_InvalidNumber) = some false
  k_Refused_InvalidRule : PySem.W.kitOne K (.ref a.c_Refused) (.ref a.c_InvalidRule) = some false
  k_Refused_InvalidRuns : PySem.W.kitOne K (.ref a.c_Refused) (.ref a.c_InvalidRuns) = some false
  k_Refused_InvalidBlock : PySem.W.kitOne K (.ref a.c_Refused) (.ref a.c_InvalidBlock) = some false
  k_Refused_InvalidText : PySem.W.kitOne K (.ref a.c_Refused) (.ref a.c_InvalidText) = some false
  k_Refused_GrowError : PySem.W.kitOne K (.ref a.c_Refused) (.ref a.c_GrowError) = some true
  o_NotDone : OexC K a.c_NotDone
  i_NotDone : PySem.W.findIn K (.ref a.c_NotDone) "__init__" = some (some (.ref a.i_NotDone))
  t_NotDone : PySem.W.typeIn K (.ref a.i_NotDone) = some (.type "function")
  n_NotDone : PySem.W.findIn K (.ref a.c_NotDone) "number" = some none
  FI_NotDone : Fun K "__init__" "NotDone.__init__" si_NotDone a.i_NotDone a.e_NotDone
  BI_NotDone : Binds K a.e_NotDone ["self", "number", "error"] []
  x_NotDone : XfC K a.c_NotDone
  q_NotDone : ExcC K a.c_NotDone
  n2_NotDone : PySem.W.findIn K (.ref a.c_NotDone) "error" = some none
  k_NotDone_ValueError : PySem.W.kitOne K (.ref a.c_NotDone) (.type "ValueError") = some true
  KE_NotDone : KBe K a.e_NotDone ["self", "number", "error"] ["error", "number"] [1, 0]
  KF_NotDone : KBe K a.e_NotDone ["self", "number", "error"] ["number", "error"] [0, 1]
  k_NotDone_TooMany : PySem.W.kitOne K (.ref a.c_NotDone) (.ref a.c_TooMany) = some false
  k_NotDone_Refused : PySem.W.kitOne K (.ref a.c_NotDone) (.ref a.c_Refused) = some false
  k_NotDone_NotDone : PySem.W.kitOne K (.ref a.c_NotDone) (.ref a.c_NotDone) = some true
  k_NotDone_Refusable : PySem.W.kitOne K (.ref a.c_NotDone) (.ref a.c_Refusable) = some false
  k_NotDone_InvalidChoice : PySem.W.kitOne K (.ref a.c_NotDone) (.ref a.c_InvalidChoice) = some false
  k_NotDone_UnknownSet : PySem.W.kitOne K (.ref a.c_NotDone) (.ref a.c_UnknownSet) = some false
  k_NotDone_InvalidState : PySem.W.kitOne K (.ref a.c_NotDone) (.ref a.c_InvalidState) = some false
  k_NotDone_InvalidTable : PySem.W.kitOne K (.ref a.c_NotDone) (.ref a.c_InvalidTable) = some false
  k_NotDone_NotClosed : PySem.W.kitOne K (.ref a.c_NotDone) (.ref a.c_NotClosed) = some false
  k_NotDone_NothingLeft : PySem.W.kitOne K (.ref a.c_NotDone) (.ref a.c_NothingLeft) = some false
  k_NotDone_InvalidCommand : PySem.W.kitOne K (.ref a.c_NotDone) (.ref a.c_InvalidCommand) = some false
  k_NotDone_InvalidSizes : PySem.W.kitOne K (.ref a.c_NotDone) (.ref a.c_InvalidSizes) = some false
  k_NotDone_InvalidEvent : PySem.W.kitOne K (.ref a.c_NotDone) (.ref a.c_InvalidEvent) = some false
  k_NotDone_InvalidRow : PySem.W.kitOne K (.ref a.c_NotDone) (.ref a.c_InvalidRow) = some false
  k_NotDone_InvalidLine : PySem.W.kitOne K (.ref a.c_NotDone) (.ref a.c_InvalidLine) = some false
  k_NotDone_UnknownName : PySem.W.kitOne K (.ref a.c_NotDone) (.ref a.c_UnknownName) = some false
  k_NotDone_Closed : PySem.W.kitOne K (.ref a.c_NotDone) (.ref a.c_Closed) = some false
  k_NotDone_Opened : PySem.W.kitOne K (.ref a.c_NotDone) (.ref a.c_Opened) = some false
  k_NotDone_InvalidDisk : PySem.W.kitOne K (.ref a.c_NotDone) (.ref a.c_InvalidDisk) = some false
  k_NotDone_InvalidName : PySem.W.kitOne K (.ref a.c_NotDone) (.ref a.c_InvalidName) = some false
  k_NotDone_KnownName : PySem.W.kitOne K (.ref a.c_NotDone) (.ref a.c_KnownName) = some false
  k_NotDone_InvalidBook : PySem.W.kitOne K (.ref a.c_NotDone) (.ref a.c_InvalidBook) = some false
  k_NotDone_InvalidNumber : PySem.W.kitOne K (.ref a.c_NotDone) (.ref a.c_InvalidNumber) = some false
  k_NotDone_InvalidRule : PySem.W.kitOne K (.ref a.c_NotDone) (.ref a.c_InvalidRule) = some false
  k_NotDone_InvalidRuns : PySem.W.kitOne K (.ref a.c_NotDone) (.ref a.c_InvalidRuns) = some false
  k_NotDone_InvalidBlock : PySem.W.kitOne K (.ref a.c_NotDone) (.ref a.c_InvalidBlock) = some false
  k_NotDone_InvalidText : PySem.W.kitOne K (.ref a.c_NotDone) (.ref a.c_InvalidText) = some false
  k_NotDone_GrowError : PySem.W.kitOne K (.ref a.c_NotDone) (.ref a.c_GrowError) = some true
  o_NotClosed : OexC K a.c_NotClosed
  i_NotClosed : PySem.W.findIn K (.ref a.c_NotClosed) "__init__" = some (some (.ref a.i_NotClosed))
  t_NotClosed : PySem.W.typeIn K (.ref a.i_NotClosed) = some (.type "function")
  n_NotClosed : PySem.W.findIn K (.ref a.c_NotClosed) "number" = some none
  FI_NotClosed : Fun K "__init__" "NotClosed.__init__" si_NotClosed a.i_NotClosed a.e_NotClosed
  BI_NotClosed : Binds K a.e_NotClosed ["self", "number"] []
  x_NotClosed : XfC K a.c_NotClosed
  q_NotClosed : ExcC K a.c_NotClosed
  k_NotClosed_ValueError : PySem.W.kitOne K (.ref a.c_NotClosed) (.type "ValueError") = some true
  KE_NotClosed : KBe K a.e_NotClosed ["self", "number"] ["number"] [0]
  k_NotClosed_TooMany : PySem.W.kitOne K (.ref a.c_NotClosed) (.ref a.c_TooMany) = some false
  k_NotClosed_Refused : PySem.W.kitOne K (.ref a.c_NotClosed) (.ref a.c_Refused) = some false
  k_NotClosed_NotDone : PySem.W.kitOne K (.ref a.c_NotClosed) (.ref a.c_NotDone) = some false
  k_NotClosed_Refusable : PySem.W.kitOne K (.ref a.c_NotClosed) (.ref a.c_Refusable) = some false
  k_NotClosed_InvalidChoice : PySem.W.kitOne K (.ref a.c_NotClosed) (.ref a.c_InvalidChoice) = some false
  k_NotClosed_UnknownSet : PySem.W.kitOne K (.ref a.c_NotClosed) (.ref a.c_UnknownSet) = some false
  k_NotClosed_InvalidState : PySem.W.kitOne K (.ref a.c_NotClosed) (.ref a.c_InvalidState) = some false
  k_NotClosed_InvalidTable : PySem.W.kitOne K (.ref a.c_NotClosed) (.ref a.c_InvalidTable) = some false
  k_NotClosed_NotClosed : PySem.W.kitOne K (.ref a.c_NotClosed) (.ref a.c_NotClosed) = some true
  k_NotClosed_NothingLeft : PySem.W.kitOne K (.ref a.c_NotClosed) (.ref a.c_NothingLeft) = some false
  k_NotClosed_InvalidCommand : PySem.W.kitOne K (.ref a.c_NotClosed) (.ref a.c_InvalidCommand) = some false
  k_NotClosed_InvalidSizes : PySem.W.kitOne K (.ref a.c_NotClosed) (.ref a.c_InvalidSizes) = some false
  k_NotClosed_InvalidEvent : PySem.W.kitOne K (.ref a.c_NotClosed) (.ref a.c_InvalidEvent) = some false
  k_NotClosed_InvalidRow : PySem.W.kitOne K (.ref a.c_NotClosed) (.ref a.c_InvalidRow) = some false
  k_NotClosed_InvalidLine : PySem.W.kitOne K (.ref a.c_NotClosed) (.ref a.c_InvalidLine) = some false
  k_NotClosed_UnknownName : PySem.W.kitOne K (.ref a.c_NotClosed) (.ref a.c_UnknownName) = some false
  k_NotClosed_Closed : PySem.W.kitOne K (.ref a.c_NotClosed) (.ref a.c_Closed) = some false
  k_NotClosed_Opened : PySem.W.kitOne K (.ref a.c_NotClosed) (.ref a.c_Opened) = some false
  k_NotClosed_InvalidDisk : PySem.W.kitOne K (.ref a.c_NotClosed) (.ref a.c_InvalidDisk) = some false
  k_NotClosed_InvalidName : PySem.W.kitOne K (.ref a.c_NotClosed) (.ref a.c_InvalidName) = some false
  k_NotClosed_KnownName : PySem.W.kitOne K (.ref a.c_NotClosed) (.ref a.c_KnownName) = some false
  k_NotClosed_InvalidBook : PySem.W.kitOne K (.ref a.c_NotClosed) (.ref a.c_InvalidBook) = some false
  k_NotClosed_InvalidNumber : PySem.W.kitOne K (.ref a.c_NotClosed) (.ref a.c_InvalidNumber) = some false
  k_NotClosed_InvalidRule : PySem.W.kitOne K (.ref a.c_NotClosed) (.ref a.c_InvalidRule) = some false
  k_NotClosed_InvalidRuns : PySem.W.kitOne K (.ref a.c_NotClosed) (.ref a.c_InvalidRuns) = some false
  k_NotClosed_InvalidBlock : PySem.W.kitOne K (.ref a.c_NotClosed) (.ref a.c_InvalidBlock) = some false
  k_NotClosed_InvalidText : PySem.W.kitOne K (.ref a.c_NotClosed) (.ref a.c_InvalidText) = some false
  k_NotClosed_GrowError : PySem.W.kitOne K (.ref a.c_NotClosed) (.ref a.c_GrowError) = some true
  o_Refusable : OexC K a.c_Refusable
  i_Refusable : PySem.W.findIn K (.ref a.c_Refusable) "__init__" = some (some (.ref a.i_Refusable))
  t_Refusable : PySem.W.typeIn K (.ref a.i_Refusable) = some (.type "function")
  n_Refusable : PySem.W.findIn K (.ref a.c_Refusable) "row" = some none
  FI_Refusable : Fun K "__init__" "Refusable.__init__" si_Refusable a.i_Refusable a.e_Refusable
  BI_Refusable : Binds K a.e_Refusable ["self", "row"] []
  x_Refusable : XfC K a.c_Refusable
  q_Refusable : ExcC K a.c_Refusable
  k_Refusable_ValueError : PySem.W.kitOne K (.ref a.c_Refusable) (.type "ValueError") = some true
  KE_Refusable : KBe K a.e_Refusable ["self", "row"] ["row"] [0]
  k_Refusable_TooMany : PySem.W.kitOne K (.ref a.c_Refusable) (.ref a.c_TooMany) = some false
  k_Refusable_Refused : PySem.W.kitOne K (.ref a.c_Refusable) (.ref a.c_Refused) = some false
  k_Refusable_NotDone : PySem.W.kitOne K (.ref a.c_Refusable) (.ref a.c_NotDone) = some false
  k_Refusable_Refusable : PySem.W.kitOne K (.ref a.c_Refusable) (.ref a.c_Refusable) = some true
  k_Refusable_InvalidChoice : PySem.W.kitOne K (.ref a.c_Refusable) (.ref a.c_InvalidChoice) = some false
  k_Refusable_UnknownSet : PySem.W.kitOne K (.ref a.c_Refusable) (.ref a.c_UnknownSet) = some false
  k_Refusable_InvalidState : PySem.W.kitOne K (.ref a.c_Refusable) (.ref a.c_InvalidState) = some false
  k_Refusable_InvalidTable : PySem.W.kitOne K (.ref a.c_Refusable) (.ref a.c_InvalidTable) = some false
  k_Refusable_NotClosed : PySem.W.kitOne K (.ref a.c_Refusable) (.ref a.c_NotClosed) = some false
  k_Refusable_NothingLeft : PySem.W.kitOne K (.ref a.c_Refusable) (.ref a.c_NothingLeft) = some false
  k_Refusable_InvalidCommand : PySem.W.kitOne K (.ref a.c_Refusable) (.ref a.c_InvalidCommand) = some false
  k_Refusable_InvalidSizes : PySem.W.kitOne K (.ref a.c_Refusable) (.ref a.c_InvalidSizes) = some false
  k_Refusable_InvalidEvent : PySem.W.kitOne K (.ref a.c_Refusable) (.ref a.c_InvalidEvent) = some false
  k_Refusable_InvalidRow : PySem.W.kitOne K (.ref a.c_Refusable) (.ref a.c_InvalidRow) = some false
  k_Refusable_InvalidLine : PySem.W.kitOne K (.ref a.c_Refusable) (.ref a.c_InvalidLine) = some false
  k_Refusable_UnknownName : PySem.W.kitOne K (.ref a.c_Refusable) (.ref a.c_UnknownName) = some false
  k_Refusable_Closed : PySem.W.kitOne K (.ref a.c_Refusable) (.ref a.c_Closed) = some false
  k_Refusable_Opened : PySem.W.kitOne K (.ref a.c_Refusable) (.ref a.c_Opened) = some false
  k_Refusable_InvalidDisk : PySem.W.kitOne K (.ref a.c_Refusable) (.ref a.c_InvalidDisk) = some false
  k_Refusable_InvalidName : PySem.W.kitOne K (.ref a.c_Refusable) (.ref a.c_InvalidName) = some false
  k_Refusable_KnownName : PySem.W.kitOne K (.ref a.c_Refusable) (.ref a.c_KnownName) = some false
  k_Refusable_InvalidBook : PySem.W.kitOne K (.ref a.c_Refusable) (.ref a.c_InvalidBook) = some false
  k_Refusable_InvalidNumber : PySem.W.kitOne K (.ref a.c_Refusable) (.ref a.c_InvalidNumber) = some false
  k_Refusable_InvalidRule : PySem.W.kitOne K (.ref a.c_Refusable) (.ref a.c_InvalidRule) = some false
  k_Refusable_InvalidRuns : PySem.W.kitOne K (.ref a.c_Refusable) (.ref a.c_InvalidRuns) = some false
  k_Refusable_InvalidBlock : PySem.W.kitOne K (.ref a.c_Refusable) (.ref a.c_InvalidBlock) = some false
  k_Refusable_InvalidText : PySem.W.kitOne K (.ref a.c_Refusable) (.ref a.c_InvalidText) = some false
  k_Refusable_GrowError : PySem.W.kitOne K (.ref a.c_Refusable) (.ref a.c_GrowError) = some true
  o_InvalidChoice : OexC K a.c_InvalidChoice
  i_InvalidChoice : PySem.W.findIn K (.ref a.c_InvalidChoice) "__init__" = some (some (.ref a.i_InvalidChoice))
  t_InvalidChoice : PySem.W.typeIn K (.ref a.i_InvalidChoice) = some (.type "function")
  n_InvalidChoice : PySem.W.findIn K (.ref a.c_InvalidChoice) "number" = some none
  FI_InvalidChoice : Fun K "__init__" "InvalidChoice.__init__" si_InvalidChoice a.i_InvalidChoice a.e_InvalidChoice
  BI_InvalidChoice : Binds K a.e_InvalidChoice ["self", "number"] []
  x_InvalidChoice : XfC K a.c_InvalidChoice
  q_InvalidChoice : ExcC K a.c_InvalidChoice
  k_InvalidChoice_ValueError : PySem.W.kitOne K (.ref a.c_InvalidChoice) (.type "ValueError") = some true
  KE_InvalidChoice : KBe K a.e_InvalidChoice ["self", "number"] ["number"] [0]
  k_InvalidChoice_TooMany : PySem.W.kitOne K (.ref a.c_InvalidChoice) (.ref a.c_TooMany) = some false
  k_InvalidChoice_Refused : PySem.W.kitOne K (.ref a.c_InvalidChoice) (.ref a.c_Refused) = some false
  k_InvalidChoice_NotDone : PySem.W.kitOne K (.ref a.c_InvalidChoice) (.ref a.c_NotDone) = some false
  k_InvalidChoice_Refusable : PySem.W.kitOne K (.ref a.c_InvalidChoice) (.ref a.c_Refusable) = some false
  k_InvalidChoice_InvalidChoice : PySem.W.kitOne K (.ref a.c_InvalidChoice) (.ref a.c_InvalidChoice) = some true
  k_InvalidChoice_UnknownSet : PySem.W.kitOne K (.ref a.c_InvalidChoice) (.ref a.c_UnknownSet) = some false
  k_InvalidChoice_InvalidState : PySem.W.kitOne K (.ref a.c_InvalidChoice) (.ref a.c_InvalidState) = some false
  k_InvalidChoice_InvalidTable : PySem.W.kitOne K (.ref a.c_InvalidChoice) (.ref a.c_InvalidTable) = some false
  k_InvalidChoice_NotClosed : PySem.W.kitOne K (.ref a.c_InvalidChoice) (.ref a.c_NotClosed) = some false
  k_InvalidChoice_NothingLeft : PySem.W.kitOne K (.ref a.c_InvalidChoice) (.ref a.c_NothingLeft) = some false
  k_InvalidChoice_InvalidCommand : PySem.W.kitOne K (.ref a.c_InvalidChoice) (.ref a.c_InvalidCommand) = some false
  k_InvalidChoice_InvalidSizes : PySem.W.kitOne K (.ref a.c_InvalidChoice) (.ref a.c_InvalidSizes) = some false
  k_InvalidChoice_InvalidEvent : PySem.W.kitOne K (.ref a.c_InvalidChoice) (.ref a.c_InvalidEvent) = some false
  k_InvalidChoice_InvalidRow : PySem.W.kitOne K (.ref a.c_InvalidChoice) (.ref a.c_InvalidRow) = some false
  k_InvalidChoice_InvalidLine : PySem.W.kitOne K (.ref a.c_InvalidChoice) (.ref a.c_InvalidLine) = some false
  k_InvalidChoice_UnknownName : PySem.W.kitOne K (.ref a.c_InvalidChoice) (.ref a.c_UnknownName) = some false
  k_InvalidChoice_Closed : PySem.W.kitOne K (.ref a.c_InvalidChoice) (.ref a.c_Closed) = some false
  k_InvalidChoice_Opened : PySem.W.kitOne K (.ref a.c_InvalidChoice) (.ref a.c_Opened) = some false
  k_InvalidChoice_InvalidDisk : PySem.W.kitOne K (.ref a.c_InvalidChoice) (.ref a.c_InvalidDisk) = some false
  k_InvalidChoice_InvalidName : PySem.W.kitOne K (.ref a.c_InvalidChoice) (.ref a.c_InvalidName) = some false
  k_InvalidChoice_KnownName : PySem.W.kitOne K (.ref a.c_InvalidChoice) (.ref a.c_KnownName) = some false
  k_InvalidChoice_InvalidBook : PySem.W.kitOne K (.ref a.c_InvalidChoice) (.ref a.c_InvalidBook) = some false
  k_InvalidChoice_InvalidNumber : PySem.W.kitOne K (.ref a.c_InvalidChoice) (.ref a.c_InvalidNumber) = some false
  k_InvalidChoice_InvalidRule : PySem.W.kitOne K (.ref a.c_InvalidChoice) (.ref a.c_InvalidRule) = some false
  k_InvalidChoice_InvalidRuns : PySem.W.kitOne K (.ref a.c_InvalidChoice) (.ref a.c_InvalidRuns) = some false
  k_InvalidChoice_InvalidBlock : PySem.W.kitOne K (.ref a.c_InvalidChoice) (.ref a.c_InvalidBlock) = some false
  k_InvalidChoice_InvalidText : PySem.W.kitOne K (.ref a.c_InvalidChoice) (.ref a.c_InvalidText) = some false
  k_InvalidChoice_GrowError : PySem.W.kitOne K (.ref a.c_InvalidChoice) (.ref a.c_GrowError) = some true
  o_UnknownSet : OexC K a.c_UnknownSet
  i_UnknownSet : PySem.W.findIn K (.ref a.c_UnknownSet) "__init__" = some (some (.ref a.i_UnknownSet))
  t_UnknownSet : PySem.W.typeIn K (.ref a.i_UnknownSet) = some (.type "function")
  n_UnknownSet : PySem.W.findIn K (.ref a.c_UnknownSet) "picks" = some none
  FI_UnknownSet : Fun K "__init__" "UnknownSet.__init__" si_UnknownSet a.i_UnknownSet a.e_UnknownSet
  BI_UnknownSet : Binds K a.e_UnknownSet ["self", "picks"] []
  x_UnknownSet : XfC K a.c_UnknownSet
  q_UnknownSet : ExcC K a.c_UnknownSet
  k_UnknownSet_ValueError : PySem.W.kitOne K (.ref a.c_UnknownSet) (.type "ValueError") = some true
  KE_UnknownSet : KBe K a.e_UnknownSet ["self", "picks"] ["picks"] [0]
  k_UnknownSet_TooMany : PySem.W.kitOne K (.ref a.c_UnknownSet) (.ref a.c_TooMany) = some false
  k_UnknownSet_Refused : PySem.W.kitOne K (.ref a.c_UnknownSet) (.ref a.c_Refused) = some false
  k_UnknownSet_NotDone : PySem.W.kitOne K (.ref a.c_UnknownSet) (.ref a.c_NotDone) = some false
  k_UnknownSet_Refusable : PySem.W.kitOne K (.ref a.c_UnknownSet) (.ref a.c_Refusable) = some false
  k_UnknownSet_InvalidChoice : PySem.W.kitOne K (.ref a.c_UnknownSet) (.ref a.c_InvalidChoice) = some false
  k_UnknownSet_UnknownSet : PySem.W.kitOne K (.ref a.c_UnknownSet) (.ref a.c_UnknownSet) = some true
  k_UnknownSet_InvalidState : PySem.W.kitOne K (.ref a.c_UnknownSet) (.ref a.c_InvalidState) = some false
  k_UnknownSet_InvalidTable : PySem.W.kitOne K (.ref a.c_UnknownSet) (.ref a.c_InvalidTable) = some false
  k_UnknownSet_NotClosed : PySem.W.kitOne K (.ref a.c_UnknownSet) (.ref a.c_NotClosed) = some false
  k_UnknownSet_NothingLeft : PySem.W.kitOne K (.ref a.c_UnknownSet) (.ref a.c_NothingLeft) = some false
  k_UnknownSet_InvalidCommand : PySem.W.kitOne K (.ref a.c_UnknownSet) (.ref a.c_InvalidCommand) = some false
  k_UnknownSet_InvalidSizes : PySem.W.kitOne K (.ref a.c_UnknownSet) (.ref a.c_InvalidSizes) = some false
  k_UnknownSet_InvalidEvent : PySem.W.kitOne K (.ref a.c_UnknownSet) (.ref a.c_InvalidEvent) = some false
  k_UnknownSet_InvalidRow : PySem.W.kitOne K (.ref a.c_UnknownSet) (.ref a.c_InvalidRow) = some false
  k_UnknownSet_InvalidLine : PySem.W.kitOne K (.ref a.c_UnknownSet) (.ref a.c_InvalidLine) = some false
  k_UnknownSet_UnknownName : PySem.W.kitOne K (.ref a.c_UnknownSet) (.ref a.c_UnknownName) = some false
  k_UnknownSet_Closed : PySem.W.kitOne K (.ref a.c_UnknownSet) (.ref a.c_Closed) = some false
  k_UnknownSet_Opened : PySem.W.kitOne K (.ref a.c_UnknownSet) (.ref a.c_Opened) = some false
  k_UnknownSet_InvalidDisk : PySem.W.kitOne K (.ref a.c_UnknownSet) (.ref a.c_InvalidDisk) = some false
  k_UnknownSet_InvalidName : PySem.W.kitOne K (.ref a.c_UnknownSet) (.ref a.c_InvalidName) = some false
  k_UnknownSet_KnownName : PySem.W.kitOne K (.ref a.c_UnknownSet) (.ref a.c_KnownName) = some false
  k_UnknownSet_InvalidBook : PySem.W.kitOne K (.ref a.c_UnknownSet) (.ref a.c_InvalidBook) = some false
  k_UnknownSet_InvalidNumber : PySem.W.kitOne K (.ref a.c_UnknownSet) (.ref a.c_InvalidNumber) = some false
  k_UnknownSet_InvalidRule : PySem.W.kitOne K (.ref a.c_UnknownSet) (.ref a.c_InvalidRule) = some false
  k_UnknownSet_InvalidRuns : PySem.W.kitOne K (.ref a.c_UnknownSet) (.ref a.c_InvalidRuns) = some false
  k_UnknownSet_InvalidBlock : PySem.W.kitOne K (.ref a.c_UnknownSet) (.ref a.c_InvalidBlock) = some false
  k_UnknownSet_InvalidText : PySem.W.kitOne K (.ref a.c_UnknownSet) (.ref a.c_InvalidText) = some false
  k_UnknownSet_GrowError : PySem.W.kitOne K (.ref a.c_UnknownSet) (.ref a.c_GrowError) = some true
  o_InvalidCommand : OexC K a.c_InvalidCommand
  i_InvalidCommand : PySem.W.findIn K (.ref a.c_InvalidCommand) "__init__" = some (some (.ref a.i_InvalidCommand))
  t_InvalidCommand : PySem.W.typeIn K (.ref a.i_InvalidCommand) = some (.type "function")
  n_InvalidCommand : PySem.W.findIn K (.ref a.c_InvalidCommand) "row" = some none
  FI_InvalidCommand : Fun K "__init__" "InvalidCommand.__init__" si_InvalidCommand a.i_InvalidCommand a.e_InvalidCommand
  BI_InvalidCommand : Binds K a.e_InvalidCommand ["self", "row"] []
  x_InvalidCommand : XfC K a.c_InvalidCommand
  q_InvalidCommand : ExcC K a.c_InvalidCommand
  k_InvalidCommand_ValueError : PySem.W.kitOne K (.ref a.c_InvalidCommand) (.type "ValueError") = some true
  KE_InvalidCommand : KBe K a.e_InvalidCommand ["self", "row"] ["row"] [0]
  k_InvalidCommand_TooMany : PySem.W.kitOne K (.ref a.c_InvalidCommand) (.ref a.c_TooMany) = some false
  k_InvalidCommand_Refused : PySem.W.kitOne K (.ref a.c_InvalidCommand) (.ref a.c_Refused) = some false
  k_InvalidCommand_NotDone : PySem.W.kitOne K (.ref a.c_InvalidCommand) (.ref a.c_NotDone) = some false
  k_InvalidCommand_Refusable : PySem.W.kitOne K (.ref a.c_InvalidCommand) (.ref a.c_Refusable) = some false
  k_InvalidCommand_InvalidChoice : PySem.W.kitOne K (.ref a.c_InvalidCommand) (.ref a.c_InvalidChoice) = some false
  k_InvalidCommand_UnknownSet : PySem.W.kitOne K (.ref a.c_InvalidCommand) (.ref a.c_UnknownSet) = some false
  k_InvalidCommand_InvalidState : PySem.W.kitOne K (.ref a.c_InvalidCommand) (.ref a.c_InvalidState) = some false
  k_InvalidCommand_InvalidTable : PySem.W.kitOne K (.ref a.c_InvalidCommand) (.ref a.c_InvalidTable) = some false
  k_InvalidCommand_NotClosed : PySem.W.kitOne K (.ref a.c_InvalidCommand) (.ref a.c_NotClosed) = some false
  k_InvalidCommand_NothingLeft : PySem.W.kitOne K (.ref a.c_InvalidCommand) (.ref a.c_NothingLeft) = some false
  k_InvalidCommand_InvalidCommand : PySem.W.kitOne K (.ref a.c_InvalidCommand) (.ref a.c_InvalidCommand) = some true
  k_InvalidCommand_InvalidSizes : PySem.W.kitOne K (.ref a.c_InvalidCommand) (.ref a.c_InvalidSizes) = some false
  k_InvalidCommand_InvalidEvent : PySem.W.kitOne K (.ref a.c_InvalidCommand) (.ref a.c_InvalidEvent) = some false
  k_InvalidCommand_InvalidRow : PySem.W.kitOne K (.ref a.c_InvalidCommand) (.ref a.c_InvalidRow) = some false
  k_InvalidCommand_InvalidLine : PySem.W.kitOne K (.ref a.c_InvalidCommand) (.ref a.c_InvalidLine) = some false
  k_InvalidCommand_UnknownName : PySem.W.kitOne K (.ref a.c_InvalidCommand) (.ref a.c_UnknownName) = some false
  k_InvalidCommand_Closed : PySem.W.kitOne K (.ref a.c_InvalidCommand) (.ref a.c_Closed) = some false
  k_InvalidCommand_Opened : PySem.W.kitOne K (.ref a.c_InvalidCommand) (.ref a.c_Opened) = some false
  k_InvalidCommand_InvalidDisk : PySem.W.kitOne K (.ref a.c_InvalidCommand) (.ref a.c_InvalidDisk) = some false
  k_InvalidCommand_InvalidName : PySem.W.kitOne K (.ref a.c_InvalidCommand) (.ref a.c_InvalidName) = some false
  k_InvalidCommand_KnownName : PySem.W.kitOne K (.ref a.c_InvalidCommand) (.ref a.c_KnownName) = some false
  k_InvalidCommand_InvalidBook : PySem.W.kitOne K (.ref a.c_InvalidCommand) (.ref a.c_InvalidBook) = some false
  k_InvalidCommand_InvalidNumber : PySem.W.kitOne K (.ref a.c_InvalidCommand) (.ref a.c_InvalidNumber) = some false
  k_InvalidCommand_InvalidRule : PySem.W.kitOne K (.ref a.c_InvalidCommand) (.ref a.c_InvalidRule) = some false
  k_InvalidCommand_InvalidRuns : PySem.W.kitOne K (.ref a.c_InvalidCommand) (.ref a.c_InvalidRuns) = some false
  k_InvalidCommand_InvalidBlock : PySem.W.kitOne K (.ref a.c_InvalidCommand) (.ref a.c_InvalidBlock) = some false
  k_InvalidCommand_InvalidText : PySem.W.kitOne K (.ref a.c_InvalidCommand) (.ref a.c_InvalidText) = some false
  k_InvalidCommand_GrowError : PySem.W.kitOne K (.ref a.c_InvalidCommand) (.ref a.c_GrowError) = some true
  o_InvalidSizes : OexC K a.c_InvalidSizes
  i_InvalidSizes : PySem.W.findIn K (.ref a.c_InvalidSizes) "__init__" = some (some (.ref a.i_InvalidSizes))
  t_InvalidSizes : PySem.W.typeIn K (.ref a.i_InvalidSizes) = some (.type "function")
  n_InvalidSizes : PySem.W.findIn K (.ref a.c_InvalidSizes) "number" = some none
  FI_InvalidSizes : Fun K "__init__" "InvalidSizes.__init__" si_InvalidSizes a.i_InvalidSizes a.e_InvalidSizes
  BI_InvalidSizes : Binds K a.e_InvalidSizes ["self", "number"] []
  x_InvalidSizes : XfC K a.c_InvalidSizes
  q_InvalidSizes : ExcC K a.c_InvalidSizes
  k_InvalidSizes_ValueError : PySem.W.kitOne K (.ref a.c_InvalidSizes) (.type "ValueError") = some true
  KE_InvalidSizes : KBe K a.e_InvalidSizes ["self", "number"] ["number"] [0]
  k_InvalidSizes_TooMany : PySem.W.kitOne K (.ref a.c_InvalidSizes) (.ref a.c_TooMany) = some false
  k_InvalidSizes_Refused : PySem.W.kitOne K (.ref a.c_InvalidSizes) (.ref a.c_Refused) = some false
  k_InvalidSizes_NotDone : PySem.W.kitOne K (.ref a.c_InvalidSizes) (.ref a.c_NotDone) = some false
  k_InvalidSizes_Refusable : PySem.W.kitOne K (.ref a.c_InvalidSizes) (.ref a.c_Refusable) = some false
  k_InvalidSizes_InvalidChoice : PySem.W.kitOne K (.ref a.c_InvalidSizes) (.ref a.c_InvalidChoice) = some false
  k_InvalidSizes_UnknownSet : PySem.W.kitOne K (.ref a.c_InvalidSizes) (.ref a.c_UnknownSet) = some false
  k_InvalidSizes_InvalidState : PySem.W.kitOne K (.ref a.c_InvalidSizes) (.ref a.c_InvalidState) = some false
  k_InvalidSizes_InvalidTable : PySem.W.kitOne K (.ref a.c_InvalidSizes) (.ref a.c_InvalidTable) = some false
  k_InvalidSizes_NotClosed : PySem.W.kitOne K (.ref a.c_InvalidSizes) (.ref a.c_NotClosed) = some false
  k_InvalidSizes_NothingLeft : PySem.W.kitOne K (.ref a.c_InvalidSizes) (.ref a.c_NothingLeft) = some false
  k_InvalidSizes_InvalidCommand : PySem.W.kitOne K (.ref a.c_InvalidSizes) (.ref a.c_InvalidCommand) = some false
  k_InvalidSizes_InvalidSizes : PySem.W.kitOne K (.ref a.c_InvalidSizes) (.ref a.c_InvalidSizes) = some true
  k_InvalidSizes_InvalidEvent : PySem.W.kitOne K (.ref a.c_InvalidSizes) (.ref a.c_InvalidEvent) = some false
  k_InvalidSizes_InvalidRow : PySem.W.kitOne K (.ref a.c_InvalidSizes) (.ref a.c_InvalidRow) = some false
  k_InvalidSizes_InvalidLine : PySem.W.kitOne K (.ref a.c_InvalidSizes) (.ref a.c_InvalidLine) = some false
  k_InvalidSizes_UnknownName : PySem.W.kitOne K (.ref a.c_InvalidSizes) (.ref a.c_UnknownName) = some false
  k_InvalidSizes_Closed : PySem.W.kitOne K (.ref a.c_InvalidSizes) (.ref a.c_Closed) = some false
  k_InvalidSizes_Opened : PySem.W.kitOne K (.ref a.c_InvalidSizes) (.ref a.c_Opened) = some false
  k_InvalidSizes_InvalidDisk : PySem.W.kitOne K (.ref a.c_InvalidSizes) (.ref a.c_InvalidDisk) = some false
  k_InvalidSizes_InvalidName : PySem.W.kitOne K (.ref a.c_InvalidSizes) (.ref a.c_InvalidName) = some false
  k_InvalidSizes_KnownName : PySem.W.kitOne K (.ref a.c_InvalidSizes) (.ref a.c_KnownName) = some false
  k_InvalidSizes_InvalidBook : PySem.W.kitOne K (.ref a.c_InvalidSizes) (.ref a.c_InvalidBook) = some false
  k_InvalidSizes_InvalidNumber : PySem.W.kitOne K (.ref a.c_InvalidSizes) (.ref a.c_InvalidNumber) = some false
  k_InvalidSizes_InvalidRule : PySem.W.kitOne K (.ref a.c_InvalidSizes) (.ref a.c_InvalidRule) = some false
  k_InvalidSizes_InvalidRuns : PySem.W.kitOne K (.ref a.c_InvalidSizes) (.ref a.c_InvalidRuns) = some false
  k_InvalidSizes_InvalidBlock : PySem.W.kitOne K (.ref a.c_InvalidSizes) (.ref a.c_InvalidBlock) = some false
  k_InvalidSizes_InvalidText : PySem.W.kitOne K (.ref a.c_InvalidSizes) (.ref a.c_InvalidText) = some false
  k_InvalidSizes_GrowError : PySem.W.kitOne K (.ref a.c_InvalidSizes) (.ref a.c_GrowError) = some true
  o_InvalidState : OexC K a.c_InvalidState
  i_InvalidState : PySem.W.findIn K (.ref a.c_InvalidState) "__init__" = some (some (.ref a.i_InvalidState))
  t_InvalidState : PySem.W.typeIn K (.ref a.i_InvalidState) = some (.type "function")
  n_InvalidState : PySem.W.findIn K (.ref a.c_InvalidState) "state" = some none
  FI_InvalidState : Fun K "__init__" "InvalidState.__init__" si_InvalidState a.i_InvalidState a.e_InvalidState
  BI_InvalidState : Binds K a.e_InvalidState ["self", "state"] []
  x_InvalidState : XfC K a.c_InvalidState
  q_InvalidState : ExcC K a.c_InvalidState
  k_InvalidState_ValueError : PySem.W.kitOne K (.ref a.c_InvalidState) (.type "ValueError") = some true
  KE_InvalidState : KBe K a.e_InvalidState ["self", "state"] ["state"] [0]
  k_InvalidState_TooMany : PySem.W.kitOne K (.ref a.c_InvalidState) (.ref a.c_TooMany) = some false
  k_InvalidState_Refused : PySem.W.kitOne K (.ref a.c_InvalidState) (.ref a.c_Refused) = some false
  k_InvalidState_NotDone : PySem.W.kitOne K (.ref a.c_InvalidState) (.ref a.c_NotDone) = some false
  k_InvalidState_Refusable : PySem.W.kitOne K (.ref a.c_InvalidState) (.ref a.c_Refusable) = some false
  k_InvalidState_InvalidChoice : PySem.W.kitOne K (.ref a.c_InvalidState) (.ref a.c_InvalidChoice) = some false
  k_InvalidState_UnknownSet : PySem.W.kitOne K (.ref a.c_InvalidState) (.ref a.c_UnknownSet) = some false
  k_InvalidState_InvalidState : PySem.W.kitOne K (.ref a.c_InvalidState) (.ref a.c_InvalidState) = some true
  k_InvalidState_InvalidTable : PySem.W.kitOne K (.ref a.c_InvalidState) (.ref a.c_InvalidTable) = some false
  k_InvalidState_NotClosed : PySem.W.kitOne K (.ref a.c_InvalidState) (.ref a.c_NotClosed) = some false
  k_InvalidState_NothingLeft : PySem.W.kitOne K (.ref a.c_InvalidState) (.ref a.c_NothingLeft) = some false
  k_InvalidState_InvalidCommand : PySem.W.kitOne K (.ref a.c_InvalidState) (.ref a.c_InvalidCommand) = some false
  k_InvalidState_InvalidSizes : PySem.W.kitOne K (.ref a.c_InvalidState) (.ref a.c_InvalidSizes) = some false
  k_InvalidState_InvalidEvent : PySem.W.kitOne K (.ref a.c_InvalidState) (.ref a.c_InvalidEvent) = some false
  k_InvalidState_InvalidRow : PySem.W.kitOne K (.ref a.c_InvalidState) (.ref a.c_InvalidRow) = some false
  k_InvalidState_InvalidLine : PySem.W.kitOne K (.ref a.c_InvalidState) (.ref a.c_InvalidLine) = some false
  k_InvalidState_UnknownName : PySem.W.kitOne K (.ref a.c_InvalidState) (.ref a.c_UnknownName) = some false
  k_InvalidState_Closed : PySem.W.kitOne K (.ref a.c_InvalidState) (.ref a.c_Closed) = some false
  k_InvalidState_Opened : PySem.W.kitOne K (.ref a.c_InvalidState) (.ref a.c_Opened) = some false
  k_InvalidState_InvalidDisk : PySem.W.kitOne K (.ref a.c_InvalidState) (.ref a.c_InvalidDisk) = some false
  k_InvalidState_InvalidName : PySem.W.kitOne K (.ref a.c_InvalidState) (.ref a.c_InvalidName) = some false
  k_InvalidState_KnownName : PySem.W.kitOne K (.ref a.c_InvalidState) (.ref a.c_KnownName) = some false
  k_InvalidState_InvalidBook : PySem.W.kitOne K (.ref a.c_InvalidState) (.ref a.c_InvalidBook) = some false
  k_InvalidState_InvalidNumber : PySem.W.kitOne K (.ref a.c_InvalidState) (.ref a.c_InvalidNumber) = some false
  k_InvalidState_InvalidRule : PySem.W.kitOne K (.ref a.c_InvalidState) (.ref a.c_InvalidRule) = some false
  k_InvalidState_InvalidRuns : PySem.W.kitOne K (.ref a.c_InvalidState) (.ref a.c_InvalidRuns) = some false
  k_InvalidState_InvalidBlock : PySem.W.kitOne K (.ref a.c_InvalidState) (.ref a.c_InvalidBlock) = some false
  k_InvalidState_InvalidText : PySem.W.kitOne K (.ref a.c_InvalidState) (.ref a.c_InvalidText) = some false
  k_InvalidState_GrowError : PySem.W.kitOne K (.ref a.c_InvalidState) (.ref a.c_GrowError) = some true
  o_InvalidTable : OexC K a.c_InvalidTable
  i_InvalidTable : PySem.W.findIn K (.ref a.c_InvalidTable) "__init__" = some (some (.ref a.i_InvalidTable))
  t_InvalidTable : PySem.W.typeIn K (.ref a.i_InvalidTable) = some (.type "function")
  n_InvalidTable : PySem.W.findIn K (.ref a.c_InvalidTable) "thing" = some none
  FI_InvalidTable : Fun K "__init__" "InvalidTable.__init__" si_InvalidTable a.i_InvalidTable a.e_InvalidTable
  BI_InvalidTable : Binds K a.e_InvalidTable ["self", "thing"] []
  x_InvalidTable : XfC K a.c_InvalidTable
  q_InvalidTable : ExcC K a.c_InvalidTable
  k_InvalidTable_ValueError : PySem.W.kitOne K (.ref a.c_InvalidTable) (.type "ValueError") = some true
  KE_InvalidTable : KBe K a.e_InvalidTable ["self", "thing"] ["thing"] [0]
  k_InvalidTable_TooMany : PySem.W.kitOne K (.ref a.c_InvalidTable) (.ref a.c_TooMany) = some false
  k_InvalidTable_Refused : PySem.W.kitOne K (.ref a.c_InvalidTable) (.ref a.c_Refused) = some false
  k_InvalidTable_NotDone : PySem.W.kitOne K (.ref a.c_InvalidTable) (.ref a.c_NotDone) = some false
  k_InvalidTable_Refusable : PySem.W.kitOne K (.ref a.c_InvalidTable) (.ref a.c_Refusable) = some false
  k_InvalidTable_InvalidChoice : PySem.W.kitOne K (.ref a.c_InvalidTable) (.ref a.c_InvalidChoice) = some false
  k_InvalidTable_UnknownSet : PySem.W.kitOne K (.ref a.c_InvalidTable) (.ref a.c_UnknownSet) = some false
  k_InvalidTable_InvalidState : PySem.W.kitOne K (.ref a.c_InvalidTable) (.ref a.c_InvalidState) = some false
  k_InvalidTable_InvalidTable : PySem.W.kitOne K (.ref a.c_InvalidTable) (.ref a.c_InvalidTable) = some true
  k_InvalidTable_NotClosed : PySem.W.kitOne K (.ref a.c_InvalidTable) (.ref a.c_NotClosed) = some false
  k_InvalidTable_NothingLeft : PySem.W.kitOne K (.ref a.c_InvalidTable) (.ref a.c_NothingLeft) = some false
  k_InvalidTable_InvalidCommand : PySem.W.kitOne K (.ref a.c_InvalidTable) (.ref a.c_InvalidCommand) = some false
  k_InvalidTable_InvalidSizes : PySem.W.kitOne K (.ref a.c_InvalidTable) (.ref a.c_InvalidSizes) = some false
  k_InvalidTable_InvalidEvent : PySem.W.kitOne K (.ref a.c_InvalidTable) (.ref a.c_InvalidEvent) = some false
  k_InvalidTable_InvalidRow : PySem.W.kitOne K (.ref a.c_InvalidTable) (.ref a.c_InvalidRow) = some false
  k_InvalidTable_InvalidLine : PySem.W.kitOne K (.ref a.c_InvalidTable) (.ref a.c_InvalidLine) = some false
  k_InvalidTable_UnknownName : PySem.W.kitOne K (.ref a.c_InvalidTable) (.ref a.c_UnknownName) = some false
  k_InvalidTable_Closed : PySem.W.kitOne K (.ref a.c_InvalidTable) (.ref a.c_Closed) = some false
  k_InvalidTable_Opened : PySem.W.kitOne K (.ref a.c_InvalidTable) (.ref a.c_Opened) = some false
  k_InvalidTable_InvalidDisk : PySem.W.kitOne K (.ref a.c_InvalidTable) (.ref a.c_InvalidDisk) = some false
  k_InvalidTable_InvalidName : PySem.W.kitOne K (.ref a.c_InvalidTable) (.ref a.c_InvalidName) = some false
  k_InvalidTable_KnownName : PySem.W.kitOne K (.ref a.c_InvalidTable) (.ref a.c_KnownName) = some false
  k_InvalidTable_InvalidBook : PySem.W.kitOne K (.ref a.c_InvalidTable) (.ref a.c_InvalidBook) = some false
  k_InvalidTable_InvalidNumber : PySem.W.kitOne K (.ref a.c_InvalidTable) (.ref a.c_InvalidNumber) = some false
  k_InvalidTable_InvalidRule : PySem.W.kitOne K (.ref a.c_InvalidTable) (.ref a.c_InvalidRule) = some false
  k_InvalidTable_InvalidRuns : PySem.W.kitOne K (.ref a.c_InvalidTable) (.ref a.c_InvalidRuns) = some false
  k_InvalidTable_InvalidBlock : PySem.W.kitOne K (.ref a.c_InvalidTable) (.ref a.c_InvalidBlock) = some false
  k_InvalidTable_InvalidText : PySem.W.kitOne K (.ref a.c_InvalidTable) (.ref a.c_InvalidText) = some false
  k_InvalidTable_GrowError : PySem.W.kitOne K (.ref a.c_InvalidTable) (.ref a.c_GrowError) = some true
  o_InvalidEvent : OexC K a.c_InvalidEvent
  i_InvalidEvent : PySem.W.findIn K (.ref a.c_InvalidEvent) "__init__" = some (some (.ref a.i_InvalidEvent))
  t_InvalidEvent : PySem.W.typeIn K (.ref a.i_InvalidEvent) = some (.type "function")
  n_InvalidEvent : PySem.W.findIn K (.ref a.c_InvalidEvent) "event" = some none
  FI_InvalidEvent : Fun K "__init__" "InvalidEvent.__init__" si_InvalidEvent a.i_InvalidEvent a.e_InvalidEvent
  BI_InvalidEvent : Binds K a.e_InvalidEvent ["self", "event"] []
  x_InvalidEvent : XfC K a.c_InvalidEvent
  q_InvalidEvent : ExcC K a.c_InvalidEvent
  k_InvalidEvent_ValueError : PySem.W.kitOne K (.ref a.c_InvalidEvent) (.type "ValueError") = some true
  KE_InvalidEvent : KBe K a.e_InvalidEvent ["self", "event"] ["event"] [0]
  k_InvalidEvent_TooMany : PySem.W.kitOne K (.ref a.c_InvalidEvent) (.ref a.c_TooMany) = some false
  k_InvalidEvent_Refused : PySem.W.kitOne K (.ref a.c_InvalidEvent) (.ref a.c_Refused) = some false
  k_InvalidEvent_NotDone : PySem.W.kitOne K (.ref a.c_InvalidEvent) (.ref a.c_NotDone) = some false
  k_InvalidEvent_Refusable : PySem.W.kitOne K (.ref a.c_InvalidEvent) (.ref a.c_Refusable) = some false
  k_InvalidEvent_InvalidChoice : PySem.W.kitOne K (.ref a.c_InvalidEvent) (.ref a.c_InvalidChoice) = some false
  k_InvalidEvent_UnknownSet : PySem.W.kitOne K (.ref a.c_InvalidEvent) (.ref a.c_UnknownSet) = some false
  k_InvalidEvent_InvalidState : PySem.W.kitOne K (.ref a.c_InvalidEvent) (.ref a.c_InvalidState) = some false
  k_InvalidEvent_InvalidTable : PySem.W.kitOne K (.ref a.c_InvalidEvent) (.ref a.c_InvalidTable) = some false
  k_InvalidEvent_NotClosed : PySem.W.kitOne K (.ref a.c_InvalidEvent) (.ref a.c_NotClosed) = some false
  k_InvalidEvent_NothingLeft : PySem.W.kitOne K (.ref a.c_InvalidEvent) (.ref a.c_NothingLeft) = some false
  k_InvalidEvent_InvalidCommand : PySem.W.kitOne K (.ref a.c_InvalidEvent) (.ref a.c_InvalidCommand) = some false
  k_InvalidEvent_InvalidSizes : PySem.W.kitOne K (.ref a.c_InvalidEvent) (.ref a.c_InvalidSizes) = some false
  k_InvalidEvent_InvalidEvent : PySem.W.kitOne K (.ref a.c_InvalidEvent) (.ref a.c_InvalidEvent) = some true
  k_InvalidEvent_InvalidRow : PySem.W.kitOne K (.ref a.c_InvalidEvent) (.ref a.c_InvalidRow) = some false
  k_InvalidEvent_InvalidLine : PySem.W.kitOne K (.ref a.c_InvalidEvent) (.ref a.c_InvalidLine) = some false
  k_InvalidEvent_UnknownName : PySem.W.kitOne K (.ref a.c_InvalidEvent) (.ref a.c_UnknownName) = some false
  k_InvalidEvent_Closed : PySem.W.kitOne K (.ref a.c_InvalidEvent) (.ref a.c_Closed) = some false
  k_InvalidEvent_Opened : PySem.W.kitOne K (.ref a.c_InvalidEvent) (.ref a.c_Opened) = some false
  k_InvalidEvent_InvalidDisk : PySem.W.kitOne K (.ref a.c_InvalidEvent) (.ref a.c_InvalidDisk) = some false
  k_InvalidEvent_InvalidName : PySem.W.kitOne K (.ref a.c_InvalidEvent) (.ref a.c_InvalidName) = some false
  k_InvalidEvent_KnownName : PySem.W.kitOne K (.ref a.c_InvalidEvent) (.ref a.c_KnownName) = some false
  k_InvalidEvent_InvalidBook : PySem.W.kitOne K (.ref a.c_InvalidEvent) (.ref a.c_InvalidBook) = some false
  k_InvalidEvent_InvalidNumber : PySem.W.kitOne K (.ref a.c_InvalidEvent) (.ref a.c_InvalidNumber) = some false
  k_InvalidEvent_InvalidRule : PySem.W.kitOne K (.ref a.c_InvalidEvent) (.ref a.c_InvalidRule) = some false
  k_InvalidEvent_InvalidRuns : PySem.W.kitOne K (.ref a.c_InvalidEvent) (.ref a.c_InvalidRuns) = some false
  k_InvalidEvent_InvalidBlock : PySem.W.kitOne K (.ref a.c_InvalidEvent) (.ref a.c_InvalidBlock) = some false
  k_InvalidEvent_InvalidText : PySem.W.kitOne K (.ref a.c_InvalidEvent) (.ref a.c_InvalidText) = some false
  k_InvalidEvent_GrowError : PySem.W.kitOne K (.ref a.c_InvalidEvent) (.ref a.c_GrowError) = some true
  o_InvalidRow : OexC K a.c_InvalidRow
  i_InvalidRow : PySem.W.findIn K (.ref a.c_InvalidRow) "__init__" = some (some (.ref a.i_InvalidRow))
  t_InvalidRow : PySem.W.typeIn K (.ref a.i_InvalidRow) = some (.type "function")
  n_InvalidRow : PySem.W.findIn K (.ref a.c_InvalidRow) "number" = some none
  FI_InvalidRow : Fun K "__init__" "InvalidRow.__init__" si_InvalidRow a.i_InvalidRow a.e_InvalidRow
  BI_InvalidRow : Binds K a.e_InvalidRow ["self", "number"] []
  x_InvalidRow : XfC K a.c_InvalidRow
  q_InvalidRow : ExcC K a.c_InvalidRow
  k_InvalidRow_ValueError : PySem.W.kitOne K (.ref a.c_InvalidRow) (.type "ValueError") = some true
  KE_InvalidRow : KBe K a.e_InvalidRow ["self", "number"] ["number"] [0]
  k_InvalidRow_TooMany : PySem.W.kitOne K (.ref a.c_InvalidRow) (.ref a.c_TooMany) = some false
  k_InvalidRow_Refused : PySem.W.kitOne K (.ref a.c_InvalidRow) (.ref a.c_Refused) = some false
  k_InvalidRow_NotDone : PySem.W.kitOne K (.ref a.c_InvalidRow) (.ref a.c_NotDone) = some false
  k_InvalidRow_Refusable : PySem.W.kitOne K (.ref a.c_InvalidRow) (.ref a.c_Refusable) = some false
  k_InvalidRow_InvalidChoice : PySem.W.kitOne K (.ref a.c_InvalidRow) (.ref a.c_InvalidChoice) = some false
  k_InvalidRow_UnknownSet : PySem.W.kitOne K (.ref a.c_InvalidRow) (.ref a.c_UnknownSet) = some false
  k_InvalidRow_InvalidState : PySem.W.kitOne K (.ref a.c_InvalidRow) (.ref a.c_InvalidState) = some false
  k_InvalidRow_InvalidTable : PySem.W.kitOne K (.ref a.c_InvalidRow) (.ref a.c_InvalidTable) = some false
  k_InvalidRow_NotClosed : PySem.W.kitOne K (.ref a.c_InvalidRow) (.ref a.c_NotClosed) = some false
  k_InvalidRow_NothingLeft : PySem.W.kitOne K (.ref a.c_InvalidRow) (.ref a.c_NothingLeft) = some false
  k_InvalidRow_InvalidCommand : PySem.W.kitOne K (.ref a.c_InvalidRow) (.ref a.c_InvalidCommand) = some false
  k_InvalidRow_InvalidSizes : PySem.W.kitOne K (.ref a.c_InvalidRow) (.ref a.c_InvalidSizes) = some false
  k_InvalidRow_InvalidEvent : PySem.W.kitOne K (.ref a.c_InvalidRow) (.ref a.c_InvalidEvent) = some false
  k_InvalidRow_InvalidRow : PySem.W.kitOne K (.ref a.c_InvalidRow) (.ref a.c_InvalidRow) = some true
  k_InvalidRow_InvalidLine : PySem.W.kitOne K (.ref a.c_InvalidRow) (.ref a.c_InvalidLine) = some false
  k_InvalidRow_UnknownName : PySem.W.kitOne K (.ref a.c_InvalidRow) (.ref a.c_UnknownName) = some false
  k_InvalidRow_Closed : PySem.W.kitOne K (.ref a.c_InvalidRow) (.ref a.c_Closed) = some false
  k_InvalidRow_Opened : PySem.W.kitOne K (.ref a.c_InvalidRow) (.ref a.c_Opened) = some false
  k_InvalidRow_InvalidDisk : PySem.W.kitOne K (.ref a.c_InvalidRow) (.ref a.c_InvalidDisk) = some false
  k_InvalidRow_InvalidName : PySem.W.kitOne K (.ref a.c_InvalidRow) (.ref a.c_InvalidName) = some false
  k_InvalidRow_KnownName : PySem.W.kitOne K (.ref a.c_InvalidRow) (.ref a.c_KnownName) = some false
  k_InvalidRow_InvalidBook : PySem.W.kitOne K (.ref a.c_InvalidRow) (.ref a.c_InvalidBook) = some false
  k_InvalidRow_InvalidNumber : PySem.W.kitOne K (.ref a.c_InvalidRow) (.ref a.c_InvalidNumber) = some false
  k_InvalidRow_InvalidRule : PySem.W.kitOne K (.ref a.c_InvalidRow) (.ref a.c_InvalidRule) = some false
  k_InvalidRow_InvalidRuns : PySem.W.kitOne K (.ref a.c_InvalidRow) (.ref a.c_InvalidRuns) = some false
  k_InvalidRow_InvalidBlock : PySem.W.kitOne K (.ref a.c_InvalidRow) (.ref a.c_InvalidBlock) = some false
  k_InvalidRow_InvalidText : PySem.W.kitOne K (.ref a.c_InvalidRow) (.ref a.c_InvalidText) = some false
  k_InvalidRow_GrowError : PySem.W.kitOne K (.ref a.c_InvalidRow) (.ref a.c_GrowError) = some true
  o_InvalidLine : OexC K a.c_InvalidLine
  i_InvalidLine : PySem.W.findIn K (.ref a.c_InvalidLine) "__init__" = some (some (.ref a.i_InvalidLine))
  t_InvalidLine : PySem.W.typeIn K (.ref a.i_InvalidLine) = some (.type "function")
  n_InvalidLine : PySem.W.findIn K (.ref a.c_InvalidLine) "number" = some none
  FI_InvalidLine : Fun K "__init__" "InvalidLine.__init__" si_InvalidLine a.i_InvalidLine a.e_InvalidLine
  BI_InvalidLine : Binds K a.e_InvalidLine ["self", "number"] []
  x_InvalidLine : XfC K a.c_InvalidLine
  q_InvalidLine : ExcC K a.c_InvalidLine
  k_InvalidLine_ValueError : PySem.W.kitOne K (.ref a.c_InvalidLine) (.type "ValueError") = some true
  KE_InvalidLine : KBe K a.e_InvalidLine ["self", "number"] ["number"] [0]
  k_InvalidLine_TooMany : PySem.W.kitOne K (.ref a.c_InvalidLine) (.ref a.c_TooMany) = some false
  k_InvalidLine_Refused : PySem.W.kitOne K (.ref a.c_InvalidLine) (.ref a.c_Refused) = some false
  k_InvalidLine_NotDone : PySem.W.kitOne K (.ref a.c_InvalidLine) (.ref a.c_NotDone) = some false
  k_InvalidLine_Refusable : PySem.W.kitOne K (.ref a.c_InvalidLine) (.ref a.c_Refusable) = some false
  k_InvalidLine_InvalidChoice : PySem.W.kitOne K (.ref a.c_InvalidLine) (.ref a.c_InvalidChoice) = some false
  k_InvalidLine_UnknownSet : PySem.W.kitOne K (.ref a.c_InvalidLine) (.ref a.c_UnknownSet) = some false
  k_InvalidLine_InvalidState : PySem.W.kitOne K (.ref a.c_InvalidLine) (.ref a.c_InvalidState) = some false
  k_InvalidLine_InvalidTable : PySem.W.kitOne K (.ref a.c_InvalidLine) (.ref a.c_InvalidTable) = some false
  k_InvalidLine_NotClosed : PySem.W.kitOne K (.ref a.c_InvalidLine) (.ref a.c_NotClosed) = some false
  k_InvalidLine_NothingLeft : PySem.W.kitOne K (.ref a.c_InvalidLine) (.ref a.c_NothingLeft) = some false
  k_InvalidLine_InvalidCommand : PySem.W.kitOne K (.ref a.c_InvalidLine) (.ref a.c_InvalidCommand) = some false
  k_InvalidLine_InvalidSizes : PySem.W.kitOne K (.ref a.c_InvalidLine) (.ref a.c_InvalidSizes) = some false
  k_InvalidLine_InvalidEvent : PySem.W.kitOne K (.ref a.c_InvalidLine) (.ref a.c_InvalidEvent) = some false
  k_InvalidLine_InvalidRow : PySem.W.kitOne K (.ref a.c_InvalidLine) (.ref a.c_InvalidRow) = some false
  k_InvalidLine_InvalidLine : PySem.W.kitOne K (.ref a.c_InvalidLine) (.ref a.c_InvalidLine) = some true
  k_InvalidLine_UnknownName : PySem.W.kitOne K (.ref a.c_InvalidLine) (.ref a.c_UnknownName) = some false
  k_InvalidLine_Closed : PySem.W.kitOne K (.ref a.c_InvalidLine) (.ref a.c_Closed) = some false
  k_InvalidLine_Opened : PySem.W.kitOne K (.ref a.c_InvalidLine) (.ref a.c_Opened) = some false
  k_InvalidLine_InvalidDisk : PySem.W.kitOne K (.ref a.c_InvalidLine) (.ref a.c_InvalidDisk) = some false
  k_InvalidLine_InvalidName : PySem.W.kitOne K (.ref a.c_InvalidLine) (.ref a.c_InvalidName) = some false
  k_InvalidLine_KnownName : PySem.W.kitOne K (.ref a.c_InvalidLine) (.ref a.c_KnownName) = some false
  k_InvalidLine_InvalidBook : PySem.W.kitOne K (.ref a.c_InvalidLine) (.ref a.c_InvalidBook) = some false
  k_InvalidLine_InvalidNumber : PySem.W.kitOne K (.ref a.c_InvalidLine) (.ref a.c_InvalidNumber) = some false
  k_InvalidLine_InvalidRule : PySem.W.kitOne K (.ref a.c_InvalidLine) (.ref a.c_InvalidRule) = some false
  k_InvalidLine_InvalidRuns : PySem.W.kitOne K (.ref a.c_InvalidLine) (.ref a.c_InvalidRuns) = some false
  k_InvalidLine_InvalidBlock : PySem.W.kitOne K (.ref a.c_InvalidLine) (.ref a.c_InvalidBlock) = some false
  k_InvalidLine_InvalidText : PySem.W.kitOne K (.ref a.c_InvalidLine) (.ref a.c_InvalidText) = some false
  k_InvalidLine_GrowError : PySem.W.kitOne K (.ref a.c_InvalidLine) (.ref a.c_GrowError) = some true
  o_NothingLeft : OexC K a.c_NothingLeft
  i_NothingLeft : PySem.W.findIn K (.ref a.c_NothingLeft) "__init__" = some (some (.ref a.i_NothingLeft))
  t_NothingLeft : PySem.W.typeIn K (.ref a.i_NothingLeft) = some (.type "function")
  n_NothingLeft : PySem.W.findIn K (.ref a.c_NothingLeft) "many" = some none
  FI_NothingLeft : Fun K "__init__" "NothingLeft.__init__" si_NothingLeft a.i_NothingLeft a.e_NothingLeft
  BI_NothingLeft : Binds K a.e_NothingLeft ["self", "many"] []
  x_NothingLeft : XfC K a.c_NothingLeft
  q_NothingLeft : ExcC K a.c_NothingLeft
  k_NothingLeft_ValueError : PySem.W.kitOne K (.ref a.c_NothingLeft) (.type "ValueError") = some true
  KE_NothingLeft : KBe K a.e_NothingLeft ["self", "many"] ["many"] [0]
  k_NothingLeft_TooMany : PySem.W.kitOne K (.ref a.c_NothingLeft) (.ref a.c_TooMany) = some false
  k_NothingLeft_Refused : PySem.W.kitOne K (.ref a.c_NothingLeft) (.ref a.c_Refused) = some false
  k_NothingLeft_NotDone : PySem.W.kitOne K (.ref a.c_NothingLeft) (.ref a.c_NotDone) = some false
  k_NothingLeft_Refusable : PySem.W.kitOne K (.ref a.c_NothingLeft) (.ref a.c_Refusable) = some false
  k_NothingLeft_InvalidChoice : PySem.W.kitOne K (.ref a.c_NothingLeft) (.ref a.c_InvalidChoice) = some false
  k_NothingLeft_UnknownSet : PySem.W.kitOne K (.ref a.c_NothingLeft) (.ref a.c_UnknownSet) = some false
  k_NothingLeft_InvalidState : PySem.W.kitOne K (.ref a.c_NothingLeft) (.ref a.c_InvalidState) = some false
  k_NothingLeft_InvalidTable : PySem.W.kitOne K (.ref a.c_NothingLeft) (.ref a.c_InvalidTable) = some false
  k_NothingLeft_NotClosed : PySem.W.kitOne K (.ref a.c_NothingLeft) (.ref a.c_NotClosed) = some false
  k_NothingLeft_NothingLeft : PySem.W.kitOne K (.ref a.c_NothingLeft) (.ref a.c_NothingLeft) = some true
  k_NothingLeft_InvalidCommand : PySem.W.kitOne K (.ref a.c_NothingLeft) (.ref a.c_InvalidCommand) = some false
  k_NothingLeft_InvalidSizes : PySem.W.kitOne K (.ref a.c_NothingLeft) (.ref a.c_InvalidSizes) = some false
  k_NothingLeft_InvalidEvent : PySem.W.kitOne K (.ref a.c_NothingLeft) (.ref a.c_InvalidEvent) = some false
  k_NothingLeft_InvalidRow : PySem.W.kitOne K (.ref a.c_NothingLeft) (.ref a.c_InvalidRow) = some false
  k_NothingLeft_InvalidLine : PySem.W.kitOne K (.ref a.c_NothingLeft) (.ref a.c_InvalidLine) = some false
  k_NothingLeft_UnknownName : PySem.W.kitOne K (.ref a.c_NothingLeft) (.ref a.c_UnknownName) = some false
  k_NothingLeft_Closed : PySem.W.kitOne K (.ref a.c_NothingLeft) (.ref a.c_Closed) = some false
  k_NothingLeft_Opened : PySem.W.kitOne K (.ref a.c_NothingLeft) (.ref a.c_Opened) = some false
  k_NothingLeft_InvalidDisk : PySem.W.kitOne K (.ref a.c_NothingLeft) (.ref a.c_InvalidDisk) = some false
  k_NothingLeft_InvalidName : PySem.W.kitOne K (.ref a.c_NothingLeft) (.ref a.c_InvalidName) = some false
  k_NothingLeft_KnownName : PySem.W.kitOne K (.ref a.c_NothingLeft) (.ref a.c_KnownName) = some false
  k_NothingLeft_InvalidBook : PySem.W.kitOne K (.ref a.c_NothingLeft) (.ref a.c_InvalidBook) = some false
  k_NothingLeft_InvalidNumber : PySem.W.kitOne K (.ref a.c_NothingLeft) (.ref a.c_InvalidNumber) = some false
  k_NothingLeft_InvalidRule : PySem.W.kitOne K (.ref a.c_NothingLeft) (.ref a.c_InvalidRule) = some false
  k_NothingLeft_InvalidRuns : PySem.W.kitOne K (.ref a.c_NothingLeft) (.ref a.c_InvalidRuns) = some false
  k_NothingLeft_InvalidBlock : PySem.W.kitOne K (.ref a.c_NothingLeft) (.ref a.c_InvalidBlock) = some false
  k_NothingLeft_InvalidText : PySem.W.kitOne K (.ref a.c_NothingLeft) (.ref a.c_InvalidText) = some false
  k_NothingLeft_GrowError : PySem.W.kitOne K (.ref a.c_NothingLeft) (.ref a.c_GrowError) = some true
  o_KnownName : OexC K a.c_KnownName
  i_KnownName : PySem.W.findIn K (.ref a.c_KnownName) "__init__" = some (some (.ref a.i_KnownName))
  t_KnownName : PySem.W.typeIn K (.ref a.i_KnownName) = some (.type "function")
  n_KnownName : PySem.W.findIn K (.ref a.c_KnownName) "name" = some none
  FI_KnownName : Fun K "__init__" "KnownName.__init__" si_KnownName a.i_KnownName a.e_KnownName
  BI_KnownName : Binds K a.e_KnownName ["self", "name"] []
  x_KnownName : XfC K a.c_KnownName
  q_KnownName : ExcC K a.c_KnownName
  k_KnownName_ValueError : PySem.W.kitOne K (.ref a.c_KnownName) (.type "ValueError") = some true
  KE_KnownName : KBe K a.e_KnownName ["self", "name"] ["name"] [0]
  k_KnownName_TooMany : PySem.W.kitOne K (.ref a.c_KnownName) (.ref a.c_TooMany) = some false
  k_KnownName_Refused : PySem.W.kitOne K (.ref a.c_KnownName) (.ref a.c_Refused) = some false
  k_KnownName_NotDone : PySem.W.kitOne K (.ref a.c_KnownName) (.ref a.c_NotDone) = some false
  k_KnownName_Refusable : PySem.W.kitOne K (.ref a.c_KnownName) (.ref a.c_Refusable) = some false
  k_KnownName_InvalidChoice : PySem.W.kitOne K (.ref a.c_KnownName) (.ref a.c_InvalidChoice) = some false
  k_KnownName_UnknownSet : PySem.W.kitOne K (.ref a.c_KnownName) (.ref a.c_UnknownSet) = some false
  k_KnownName_InvalidState : PySem.W.kitOne K (.ref a.c_KnownName) (.ref a.c_InvalidState) = some false
  k_KnownName_InvalidTable : PySem.W.kitOne K (.ref a.c_KnownName) (.ref a.c_InvalidTable) = some false
  k_KnownName_NotClosed : PySem.W.kitOne K (.ref a.c_KnownName) (.ref a.c_NotClosed) = some false
  k_KnownName_NothingLeft : PySem.W.kitOne K (.ref a.c_KnownName) (.ref a.c_NothingLeft) = some false
  k_KnownName_InvalidCommand : PySem.W.kitOne K (.ref a.c_KnownName) (.ref a.c_InvalidCommand) = some false
  k_KnownName_InvalidSizes : PySem.W.kitOne K (.ref a.c_KnownName) (.ref a.c_InvalidSizes) = some false
  k_KnownName_InvalidEvent : PySem.W.kitOne K (.ref a.c_KnownName) (.ref a.c_InvalidEvent) = some false
  k_KnownName_InvalidRow : PySem.W.kitOne K (.ref a.c_KnownName) (.ref a.c_InvalidRow) = some false
  k_KnownName_InvalidLine : PySem.W.kitOne K (.ref a.c_KnownName) (.ref a.c_InvalidLine) = some false
  k_KnownName_UnknownName : PySem.W.kitOne K (.ref a.c_KnownName) (.ref a.c_UnknownName) = some false
  k_KnownName_Closed : PySem.W.kitOne K (.ref a.c_KnownName) (.ref a.c_Closed) = some false
  k_KnownName_Opened : PySem.W.kitOne K (.ref a.c_KnownName) (.ref a.c_Opened) = some false
  k_KnownName_InvalidDisk : PySem.W.kitOne K (.ref a.c_KnownName) (.ref a.c_InvalidDisk) = some false
  k_KnownName_InvalidName : PySem.W.kitOne K (.ref a.c_KnownName) (.ref a.c_InvalidName) = some false
  k_KnownName_KnownName : PySem.W.kitOne K (.ref a.c_KnownName) (.ref a.c_KnownName) = some true
  k_KnownName_InvalidBook : PySem.W.kitOne K (.ref a.c_KnownName) (.ref a.c_InvalidBook) = some false
  k_KnownName_InvalidNumber : PySem.W.kitOne K (.ref a.c_KnownName) (.ref a.c_InvalidNumber) = some false
  k_KnownName_InvalidRule : PySem.W.kitOne K (.ref a.c_KnownName) (.ref a.c_InvalidRule) = some false
  k_KnownName_InvalidRuns : PySem.W.kitOne K (.ref a.c_KnownName) (.ref a.c_InvalidRuns) = some false
  k_KnownName_InvalidBlock : PySem.W.kitOne K (.ref a.c_KnownName) (.ref a.c_InvalidBlock) = some false
  k_KnownName_InvalidText : PySem.W.kitOne K (.ref a.c_KnownName) (.ref a.c_InvalidText) = some false
  k_KnownName_GrowError : PySem.W.kitOne K (.ref a.c_KnownName) (.ref a.c_GrowError) = some true
  o_UnknownName : OexC K a.c_UnknownName
  i_UnknownName : PySem.W.findIn K (.ref a.c_UnknownName) "__init__" = some (some (.ref a.i_UnknownName))
  t_UnknownName : PySem.W.typeIn K (.ref a.i_UnknownName) = some (.type "function")
  n_UnknownName : PySem.W.findIn K (.ref a.c_UnknownName) "name" = some none
  FI_UnknownName : Fun K "__init__" "UnknownName.__init__" si_UnknownName a.i_UnknownName a.e_UnknownName
  BI_UnknownName : Binds K a.e_UnknownName ["self", "name"] []
  x_UnknownName : XfC K a.c_UnknownName
  q_UnknownName : ExcC K a.c_UnknownName
  k_UnknownName_ValueError : PySem.W.kitOne K (.ref a.c_UnknownName) (.type "ValueError") = some true
  KE_UnknownName : KBe K a.e_UnknownName ["self", "name"] ["name"] [0]
  k_UnknownName_TooMany : PySem.W.kitOne K (.ref a.c_UnknownName) (.ref a.c_TooMany) = some false
  k_UnknownName_Refused : PySem.W.kitOne K (.ref a.c_UnknownName) (.ref a.c_Refused) = some false
  k_UnknownName_NotDone : PySem.W.kitOne K (.ref a.c_UnknownName) (.ref a.c_NotDone) = some false
  k_UnknownName_Refusable : PySem.W.kitOne K (.ref a.c_UnknownName) (.ref a.c_Refusable) = some false
  k_UnknownName_InvalidChoice : PySem.W.kitOne K (.ref a.c_UnknownName) (.ref a.c_InvalidChoice) = some false
  k_UnknownName_UnknownSet : PySem.W.kitOne K (.ref a.c_UnknownName) (.ref a.c_UnknownSet) = some false
  k_UnknownName_InvalidState : PySem.W.kitOne K (.ref a.c_UnknownName) (.ref a.c_InvalidState) = some false
  k_UnknownName_InvalidTable : PySem.W.kitOne K (.ref a.c_UnknownName) (.ref a.c_InvalidTable) = some false
  k_UnknownName_NotClosed : PySem.W.kitOne K (.ref a.c_UnknownName) (.ref a.c_NotClosed) = some false
  k_UnknownName_NothingLeft : PySem.W.kitOne K (.ref a.c_UnknownName) (.ref a.c_NothingLeft) = some false
  k_UnknownName_InvalidCommand : PySem.W.kitOne K (.ref a.c_UnknownName) (.ref a.c_InvalidCommand) = some false
  k_UnknownName_InvalidSizes : PySem.W.kitOne K (.ref a.c_UnknownName) (.ref a.c_InvalidSizes) = some false
  k_UnknownName_InvalidEvent : PySem.W.kitOne K (.ref a.c_UnknownName) (.ref a.c_InvalidEvent) = some false
  k_UnknownName_InvalidRow : PySem.W.kitOne K (.ref a.c_UnknownName) (.ref a.c_InvalidRow) = some false
  k_UnknownName_InvalidLine : PySem.W.kitOne K (.ref a.c_UnknownName) (.ref a.c_InvalidLine) = some false
  k_UnknownName_UnknownName : PySem.W.kitOne K (.ref a.c_UnknownName) (.ref a.c_UnknownName) = some true
  k_UnknownName_Closed : PySem.W.kitOne K (.ref a.c_UnknownName) (.ref a.c_Closed) = some false
  k_UnknownName_Opened : PySem.W.kitOne K (.ref a.c_UnknownName) (.ref a.c_Opened) = some false
  k_UnknownName_InvalidDisk : PySem.W.kitOne K (.ref a.c_UnknownName) (.ref a.c_InvalidDisk) = some false
  k_UnknownName_InvalidName : PySem.W.kitOne K (.ref a.c_UnknownName) (.ref a.c_InvalidName) = some false
  k_UnknownName_KnownName : PySem.W.kitOne K (.ref a.c_UnknownName) (.ref a.c_KnownName) = some false
  k_UnknownName_InvalidBook : PySem.W.kitOne K (.ref a.c_UnknownName) (.ref a.c_InvalidBook) = some false
  k_UnknownName_InvalidNumber : PySem.W.kitOne K (.ref a.c_UnknownName) (.ref a.c_InvalidNumber) = some false
  k_UnknownName_InvalidRule : PySem.W.kitOne K (.ref a.c_UnknownName) (.ref a.c_InvalidRule) = some false
  k_UnknownName_InvalidRuns : PySem.W.kitOne K (.ref a.c_UnknownName) (.ref a.c_InvalidRuns) = some false
  k_UnknownName_InvalidBlock : PySem.W.kitOne K (.ref a.c_UnknownName) (.ref a.c_InvalidBlock) = some false
  k_UnknownName_InvalidText : PySem.W.kitOne K (.ref a.c_UnknownName) (.ref a.c_InvalidText) = some false
  k_UnknownName_GrowError : PySem.W.kitOne K (.ref a.c_UnknownName) (.ref a.c_GrowError) = some true
  o_Closed : OexC K a.c_Closed
  i_Closed : PySem.W.findIn K (.ref a.c_Closed) "__init__" = some (some (.ref a.i_Closed))
  t_Closed : PySem.W.typeIn K (.ref a.i_Closed) = some (.type "function")
  n_Closed : PySem.W.findIn K (.ref a.c_Closed) "name" = some none
  FI_Closed : Fun K "__init__" "Closed.__init__" si_Closed a.i_Closed a.e_Closed
  BI_Closed : Binds K a.e_Closed ["self", "name"] []
  x_Closed : XfC K a.c_Closed
  q_Closed : ExcC K a.c_Closed
  k_Closed_ValueError : PySem.W.kitOne K (.ref a.c_Closed) (.type "ValueError") = some true
  KE_Closed : KBe K a.e_Closed ["self", "name"] ["name"] [0]
  k_Closed_TooMany : PySem.W.kitOne K (.ref a.c_Closed) (.ref a.c_TooMany) = some false
  k_Closed_Refused : PySem.W.kitOne K (.ref a.c_Closed) (.ref a.c_Refused) = some false
  k_Closed_NotDone : PySem.W.kitOne K (.ref a.c_Closed) (.ref a.c_NotDone) = some false
  k_Closed_Refusable : PySem.W.kitOne K (.ref a.c_Closed) (.ref a.c_Refusable) = some false
  k_Closed_InvalidChoice : PySem.W.kitOne K (.ref a.c_Closed) (.ref a.c_InvalidChoice) = some false
  k_Closed_UnknownSet : PySem.W.kitOne K (.ref a.c_Closed) (.ref a.c_UnknownSet) = some false
  k_Closed_InvalidState : PySem.W.kitOne K (.ref a.c_Closed) (.ref a.c_InvalidState) = some false
  k_Closed_InvalidTable : PySem.W.kitOne K (.ref a.c_Closed) (.ref a.c_InvalidTable) = some false
  k_Closed_NotClosed : PySem.W.kitOne K (.ref a.c_Closed) (.ref a.c_NotClosed) = some false
  k_Closed_NothingLeft : PySem.W.kitOne K (.ref a.c_Closed) (.ref a.c_NothingLeft) = some false
  k_Closed_InvalidCommand : PySem.W.kitOne K (.ref a.c_Closed) (.ref a.c_InvalidCommand) = some false
  k_Closed_InvalidSizes : PySem.W.kitOne K (.ref a.c_Closed) (.ref a.c_InvalidSizes) = some false
  k_Closed_InvalidEvent : PySem.W.kitOne K (.ref a.c_Closed) (.ref a.c_InvalidEvent) = some false
  k_Closed_InvalidRow : PySem.W.kitOne K (.ref a.c_Closed) (.ref a.c_InvalidRow) = some false
  k_Closed_InvalidLine : PySem.W.kitOne K (.ref a.c_Closed) (.ref a.c_InvalidLine) = some false
  k_Closed_UnknownName : PySem.W.kitOne K (.ref a.c_Closed) (.ref a.c_UnknownName) = some false
  k_Closed_Closed : PySem.W.kitOne K (.ref a.c_Closed) (.ref a.c_Closed) = some true
  k_Closed_Opened : PySem.W.kitOne K (.ref a.c_Closed) (.ref a.c_Opened) = some false
  k_Closed_InvalidDisk : PySem.W.kitOne K (.ref a.c_Closed) (.ref a.c_InvalidDisk) = some false
  k_Closed_InvalidName : PySem.W.kitOne K (.ref a.c_Closed) (.ref a.c_InvalidName) = some false
  k_Closed_KnownName : PySem.W.kitOne K (.ref a.c_Closed) (.ref a.c_KnownName) = some false
  k_Closed_InvalidBook : PySem.W.kitOne K (.ref a.c_Closed) (.ref a.c_InvalidBook) = some false
  k_Closed_InvalidNumber : PySem.W.kitOne K (.ref a.c_Closed) (.ref a.c_InvalidNumber) = some false
  k_Closed_InvalidRule : PySem.W.kitOne K (.ref a.c_Closed) (.ref a.c_InvalidRule) = some false
  k_Closed_InvalidRuns : PySem.W.kitOne K (.ref a.c_Closed) (.ref a.c_InvalidRuns) = some false
  k_Closed_InvalidBlock : PySem.W.kitOne K (.ref a.c_Closed) (.ref a.c_InvalidBlock) = some false
  k_Closed_InvalidText : PySem.W.kitOne K (.ref a.c_Closed) (.ref a.c_InvalidText) = some false
  k_Closed_GrowError : PySem.W.kitOne K (.ref a.c_Closed) (.ref a.c_GrowError) = some true
  o_Opened : OexC K a.c_Opened
  i_Opened : PySem.W.findIn K (.ref a.c_Opened) "__init__" = some (some (.ref a.i_Opened))
  t_Opened : PySem.W.typeIn K (.ref a.i_Opened) = some (.type "function")
  n_Opened : PySem.W.findIn K (.ref a.c_Opened) "name" = some none
  FI_Opened : Fun K "__init__" "Opened.__init__" si_Opened a.i_Opened a.e_Opened
  BI_Opened : Binds K a.e_Opened ["self", "name"] []
  x_Opened : XfC K a.c_Opened
  q_Opened : ExcC K a.c_Opened
  k_Opened_ValueError : PySem.W.kitOne K (.ref a.c_Opened) (.type "ValueError") = some true
  KE_Opened : KBe K a.e_Opened ["self", "name"] ["name"] [0]
  k_Opened_TooMany : PySem.W.kitOne K (.ref a.c_Opened) (.ref a.c_TooMany) = some false
  k_Opened_Refused : PySem.W.kitOne K (.ref a.c_Opened) (.ref a.c_Refused) = some false
  k_Opened_NotDone : PySem.W.kitOne K (.ref a.c_Opened) (.ref a.c_NotDone) = some false
  k_Opened_Refusable : PySem.W.kitOne K (.ref a.c_Opened) (.ref a.c_Refusable) = some false
  k_Opened_InvalidChoice : PySem.W.kitOne K (.ref a.c_Opened) (.ref a.c_InvalidChoice) = some false
  k_Opened_UnknownSet : PySem.W.kitOne K (.ref a.c_Opened) (.ref a.c_UnknownSet) = some false
  k_Opened_InvalidState : PySem.W.kitOne K (.ref a.c_Opened) (.ref a.c_InvalidState) = some false
  k_Opened_InvalidTable : PySem.W.kitOne K (.ref a.c_Opened) (.ref a.c_InvalidTable) = some false
  k_Opened_NotClosed : PySem.W.kitOne K (.ref a.c_Opened) (.ref a.c_NotClosed) = some false
  k_Opened_NothingLeft : PySem.W.kitOne K (.ref a.c_Opened) (.ref a.c_NothingLeft) = some false
  k_Opened_InvalidCommand : PySem.W.kitOne K (.ref a.c_Opened) (.ref a.c_InvalidCommand) = some false
  k_Opened_InvalidSizes : PySem.W.kitOne K (.ref a.c_Opened) (.ref a.c_InvalidSizes) = some false
  k_Opened_InvalidEvent : PySem.W.kitOne K (.ref a.c_Opened) (.ref a.c_InvalidEvent) = some false
  k_Opened_InvalidRow : PySem.W.kitOne K (.ref a.c_Opened) (.ref a.c_InvalidRow) = some false
  k_Opened_InvalidLine : PySem.W.kitOne K (.ref a.c_Opened) (.ref a.c_InvalidLine) = some false
  k_Opened_UnknownName : PySem.W.kitOne K (.ref a.c_Opened) (.ref a.c_UnknownName) = some false
  k_Opened_Closed : PySem.W.kitOne K (.ref a.c_Opened) (.ref a.c_Closed) = some false
  k_Opened_Opened : PySem.W.kitOne K (.ref a.c_Opened) (.ref a.c_Opened) = some true
  k_Opened_InvalidDisk : PySem.W.kitOne K (.ref a.c_Opened) (.ref a.c_InvalidDisk) = some false
  k_Opened_InvalidName : PySem.W.kitOne K (.ref a.c_Opened) (.ref a.c_InvalidName) = some false
  k_Opened_KnownName : PySem.W.kitOne K (.ref a.c_Opened) (.ref a.c_KnownName) = some false
  k_Opened_InvalidBook : PySem.W.kitOne K (.ref a.c_Opened) (.ref a.c_InvalidBook) = some false
  k_Opened_InvalidNumber : PySem.W.kitOne K (.ref a.c_Opened) (.ref a.c_InvalidNumber) = some false
  k_Opened_InvalidRule : PySem.W.kitOne K (.ref a.c_Opened) (.ref a.c_InvalidRule) = some false
  k_Opened_InvalidRuns : PySem.W.kitOne K (.ref a.c_Opened) (.ref a.c_InvalidRuns) = some false
  k_Opened_InvalidBlock : PySem.W.kitOne K (.ref a.c_Opened) (.ref a.c_InvalidBlock) = some false
  k_Opened_InvalidText : PySem.W.kitOne K (.ref a.c_Opened) (.ref a.c_InvalidText) = some false
  k_Opened_GrowError : PySem.W.kitOne K (.ref a.c_Opened) (.ref a.c_GrowError) = some true
  o_InvalidNumber : OexC K a.c_InvalidNumber
  i_InvalidNumber : PySem.W.findIn K (.ref a.c_InvalidNumber) "__init__" = some (some (.ref a.i_InvalidNumber))
  t_InvalidNumber : PySem.W.typeIn K (.ref a.i_InvalidNumber) = some (.type "function")
  n_InvalidNumber : PySem.W.findIn K (.ref a.c_InvalidNumber) "number" = some none
  FI_InvalidNumber : Fun K "__init__" "InvalidNumber.__init__" si_InvalidNumber a.i_InvalidNumber a.e_InvalidNumber
  BI_InvalidNumber : Binds K a.e_InvalidNumber ["self", "number"] []
  x_InvalidNumber : XfC K a.c_InvalidNumber
  q_InvalidNumber : ExcC K a.c_InvalidNumber
  k_InvalidNumber_ValueError : PySem.W.kitOne K (.ref a.c_InvalidNumber) (.type "ValueError") = some true
  KE_InvalidNumber : KBe K a.e_InvalidNumber ["self", "number"] ["number"] [0]
  k_InvalidNumber_TooMany : PySem.W.kitOne K (.ref a.c_InvalidNumber) (.ref a.c_TooMany) = some false
  k_InvalidNumber_Refused : PySem.W.kitOne K (.ref a.c_InvalidNumber) (.ref a.c_Refused) = some false
  k_InvalidNumber_NotDone : PySem.W.kitOne K (.ref a.c_InvalidNumber) (.ref a.c_NotDone) = some false
  k_InvalidNumber_Refusable : PySem.W.kitOne K (.ref a.c_InvalidNumber) (.ref a.c_Refusable) = some false
  k_InvalidNumber_InvalidChoice : PySem.W.kitOne K (.ref a.c_InvalidNumber) (.ref a.c_InvalidChoice) = some false
  k_InvalidNumber_UnknownSet : PySem.W.kitOne K (.ref a.c_InvalidNumber) (.ref a.c_UnknownSet) = some false
  k_InvalidNumber_InvalidState : PySem.W.kitOne K (.ref a.c_InvalidNumber) (.ref a.c_InvalidState) = some false
  k_InvalidNumber_InvalidTable : PySem.W.kitOne K (.ref a.c_InvalidNumber) (.ref a.c_InvalidTable) = some false
  k_InvalidNumber_NotClosed : PySem.W.kitOne K (.ref a.c_InvalidNumber) (.ref a.c_NotClosed) = some false
  k_InvalidNumber_NothingLeft : PySem.W.kitOne K (.ref a.c_InvalidNumber) (.ref a.c_NothingLeft) = some false
  k_InvalidNumber_InvalidCommand : PySem.W.kitOne K (.ref a.c_InvalidNumber) (.ref a.c_InvalidCommand) = some false
  k_InvalidNumber_InvalidSizes : PySem.W.kitOne K (.ref a.c_InvalidNumber) (.ref a.c_InvalidSizes) = some false
  k_InvalidNumber_InvalidEvent : PySem.W.kitOne K (.ref a.c_InvalidNumber) (.ref a.c_InvalidEvent) = some false
  k_InvalidNumber_InvalidRow : PySem.W.kitOne K (.ref a.c_InvalidNumber) (.ref a.c_InvalidRow) = some false
  k_InvalidNumber_InvalidLine : PySem.W.kitOne K (.ref a.c_InvalidNumber) (.ref a.c_InvalidLine) = some false
  k_InvalidNumber_UnknownName : PySem.W.kitOne K (.ref a.c_InvalidNumber) (.ref a.c_UnknownName) = some false
  k_InvalidNumber_Closed : PySem.W.kitOne K (.ref a.c_InvalidNumber) (.ref a.c_Closed) = some false
  k_InvalidNumber_Opened : PySem.W.kitOne K (.ref a.c_InvalidNumber) (.ref a.c_Opened) = some false
  k_InvalidNumber_InvalidDisk : PySem.W.kitOne K (.ref a.c_InvalidNumber) (.ref a.c_InvalidDisk) = some false
  k_InvalidNumber_InvalidName : PySem.W.kitOne K (.ref a.c_InvalidNumber) (.ref a.c_InvalidName) = some false
  k_InvalidNumber_KnownName : PySem.W.kitOne K (.ref a.c_InvalidNumber) (.ref a.c_KnownName) = some false
  k_InvalidNumber_InvalidBook : PySem.W.kitOne K (.ref a.c_InvalidNumber) (.ref a.c_InvalidBook) = some false
  k_InvalidNumber_InvalidNumber : PySem.W.kitOne K (.ref a.c_InvalidNumber) (.ref a.c_InvalidNumber) = some true
  k_InvalidNumber_InvalidRule : PySem.W.kitOne K (.ref a.c_InvalidNumber) (.ref a.c_InvalidRule) = some false
  k_InvalidNumber_InvalidRuns : PySem.W.kitOne K (.ref a.c_InvalidNumber) (.ref a.c_InvalidRuns) = some false
  k_InvalidNumber_InvalidBlock : PySem.W.kitOne K (.ref a.c_InvalidNumber) (.ref a.c_InvalidBlock) = some false
  k_InvalidNumber_InvalidText : PySem.W.kitOne K (.ref a.c_InvalidNumber) (.ref a.c_InvalidText) = some false
  k_InvalidNumber_GrowError : PySem.W.kitOne K (.ref a.c_InvalidNumber) (.ref a.c_GrowError) = some true
  o_InvalidRule : OexC K a.c_InvalidRule
  i_InvalidRule : PySem.W.findIn K (.ref a.c_InvalidRule) "__init__" = some (some (.ref a.i_InvalidRule))
  t_InvalidRule : PySem.W.typeIn K (.ref a.i_InvalidRule) = some (.type "function")
  n_InvalidRule : PySem.W.findIn K (.ref a.c_InvalidRule) "rule" = some none
  FI_InvalidRule : Fun K "__init__" "InvalidRule.__init__" si_InvalidRule a.i_InvalidRule a.e_InvalidRule
  BI_InvalidRule : Binds K a.e_InvalidRule ["self", "rule"] []
  x_InvalidRule : XfC K a.c_InvalidRule
  q_InvalidRule : ExcC K a.c_InvalidRule
  k_InvalidRule_ValueError : PySem.W.kitOne K (.ref a.c_InvalidRule) (.type "ValueError") = some true
  KE_InvalidRule : KBe K a.e_InvalidRule ["self", "rule"] ["rule"] [0]
  k_InvalidRule_TooMany : PySem.W.kitOne K (.ref a.c_InvalidRule) (.ref a.c_TooMany) = some false
  k_InvalidRule_Refused : PySem.W.kitOne K (.ref a.c_InvalidRule) (.ref a.c_Refused) = some false
  k_InvalidRule_NotDone : PySem.W.kitOne K (.ref a.c_InvalidRule) (.ref a.c_NotDone) = some false
  k_InvalidRule_Refusable : PySem.W.kitOne K (.ref a.c_InvalidRule) (.ref a.c_Refusable) = some false
  k_InvalidRule_InvalidChoice : PySem.W.kitOne K (.ref a.c_InvalidRule) (.ref a.c_InvalidChoice) = some false
  k_InvalidRule_UnknownSet : PySem.W.kitOne K (.ref a.c_InvalidRule) (.ref a.c_UnknownSet) = some false
  k_InvalidRule_InvalidState : PySem.W.kitOne K (.ref a.c_InvalidRule) (.ref a.c_InvalidState) = some false
  k_InvalidRule_InvalidTable : PySem.W.kitOne K (.ref a.c_InvalidRule) (.ref a.c_InvalidTable) = some false
  k_InvalidRule_NotClosed : PySem.W.kitOne K (.ref a.c_InvalidRule) (.ref a.c_NotClosed) = some false
  k_InvalidRule_NothingLeft : PySem.W.kitOne K (.ref a.c_InvalidRule) (.ref a.c_NothingLeft) = some false
  k_InvalidRule_InvalidCommand : PySem.W.kitOne K (.ref a.c_InvalidRule) (.ref a.c_InvalidCommand) = some false
  k_InvalidRule_InvalidSizes : PySem.W.kitOne K (.ref a.c_InvalidRule) (.ref a.c_InvalidSizes) = some false
  k_InvalidRule_InvalidEvent : PySem.W.kitOne K (.ref a.c_InvalidRule) (.ref a.c_InvalidEvent) = some false
  k_InvalidRule_InvalidRow : PySem.W.kitOne K (.ref a.c_InvalidRule) (.ref a.c_InvalidRow) = some false
  k_InvalidRule_InvalidLine : PySem.W.kitOne K (.ref a.c_InvalidRule) (.ref a.c_InvalidLine) = some false
  k_InvalidRule_UnknownName : PySem.W.kitOne K (.ref a.c_InvalidRule) (.ref a.c_UnknownName) = some false
  k_InvalidRule_Closed : PySem.W.kitOne K (.ref a.c_InvalidRule) (.ref a.c_Closed) = some false
  k_InvalidRule_Opened : PySem.W.kitOne K (.ref a.c_InvalidRule) (.ref a.c_Opened) = some false
  k_InvalidRule_InvalidDisk : PySem.W.kitOne K (.ref a.c_InvalidRule) (.ref a.c_InvalidDisk) = some false
  k_InvalidRule_InvalidName : PySem.W.kitOne K (.ref a.c_InvalidRule) (.ref a.c_InvalidName) = some false
  k_InvalidRule_KnownName : PySem.W.kitOne K (.ref a.c_InvalidRule) (.ref a.c_KnownName) = some false
  k_InvalidRule_InvalidBook : PySem.W.kitOne K (.ref a.c_InvalidRule) (.ref a.c_InvalidBook) = some false
  k_InvalidRule_InvalidNumber : PySem.W.kitOne K (.ref a.c_InvalidRule) (.ref a.c_InvalidNumber) = some false
  k_InvalidRule_InvalidRule : PySem.W.kitOne K (.ref a.c_InvalidRule) (.ref a.c_InvalidRule) = some true
  k_InvalidRule_InvalidRuns : PySem.W.kitOne K (.ref a.c_InvalidRule) (.ref a.c_InvalidRuns) = some false
  k_InvalidRule_InvalidBlock : PySem.W.kitOne K (.ref a.c_InvalidRule) (.ref a.c_InvalidBlock) = some false
  k_InvalidRule_InvalidText : PySem.W.kitOne K (.ref a.c_InvalidRule) (.ref a.c_InvalidText) = some false
  k_InvalidRule_GrowError : PySem.W.kitOne K (.ref a.c_InvalidRule) (.ref a.c_GrowError) = some true
  o_InvalidDisk : OexC K a.c_InvalidDisk
  i_InvalidDisk : PySem.W.findIn K (.ref a.c_InvalidDisk) "__init__" = some (some (.ref a.i_InvalidDisk))
  t_InvalidDisk : PySem.W.typeIn K (.ref a.i_InvalidDisk) = some (.type "function")
  n_InvalidDisk : PySem.W.findIn K (.ref a.c_InvalidDisk) "part" = some none
  FI_InvalidDisk : Fun K "__init__" "InvalidDisk.__init__" si_InvalidDisk a.i_InvalidDisk a.e_InvalidDisk
  BI_InvalidDisk : Binds K a.e_InvalidDisk ["self", "part"] []
  x_InvalidDisk : XfC K a.c_InvalidDisk
  q_InvalidDisk : ExcC K a.c_InvalidDisk
  k_InvalidDisk_ValueError : PySem.W.kitOne K (.ref a.c_InvalidDisk) (.type "ValueError") = some true
  KE_InvalidDisk : KBe K a.e_InvalidDisk ["self", "part"] ["part"] [0]
  k_InvalidDisk_TooMany : PySem.W.kitOne K (.ref a.c_InvalidDisk) (.ref a.c_TooMany) = some false
  k_InvalidDisk_Refused : PySem.W.kitOne K (.ref a.c_InvalidDisk) (.ref a.c_Refused) = some false
  k_InvalidDisk_NotDone : PySem.W.kitOne K (.ref a.c_InvalidDisk) (.ref a.c_NotDone) = some false
  k_InvalidDisk_Refusable : PySem.W.kitOne K (.ref a.c_InvalidDisk) (.ref a.c_Refusable) = some false
  k_InvalidDisk_InvalidChoice : PySem.W.kitOne K (.ref a.c_InvalidDisk) (.ref a.c_InvalidChoice) = some false
  k_InvalidDisk_UnknownSet : PySem.W.kitOne K (.ref a.c_InvalidDisk) (.ref a.c_UnknownSet) = some false
  k_InvalidDisk_InvalidState : PySem.W.kitOne K (.ref a.c_InvalidDisk) (.ref a.c_InvalidState) = some false
  k_InvalidDisk_InvalidTable : PySem.W.kitOne K (.ref a.c_InvalidDisk) (.ref a.c_InvalidTable) = some false
  k_InvalidDisk_NotClosed : PySem.W.kitOne K (.ref a.c_InvalidDisk) (.ref a.c_NotClosed) = some false
  k_InvalidDisk_NothingLeft : PySem.W.kitOne K (.ref a.c_InvalidDisk) (.ref a.c_NothingLeft) = some false
  k_InvalidDisk_InvalidCommand : PySem.W.kitOne K (.ref a.c_InvalidDisk) (.ref a.c_InvalidCommand) = some false
  k_InvalidDisk_InvalidSizes : PySem.W.kitOne K (.ref a.c_InvalidDisk) (.ref a.c_InvalidSizes) = some false
  k_InvalidDisk_InvalidEvent : PySem.W.kitOne K (.ref a.c_InvalidDisk) (.ref a.c_InvalidEvent) = some false
  k_InvalidDisk_InvalidRow : PySem.W.kitOne K (.ref a.c_InvalidDisk) (.ref a.c_InvalidRow) = some false
  k_InvalidDisk_InvalidLine : PySem.W.kitOne K (.ref a.c_InvalidDisk) (.ref a.c_InvalidLine) = some false
  k_InvalidDisk_UnknownName : PySem.W.kitOne K (.ref a.c_InvalidDisk) (.ref a.c_UnknownName) = some false
  k_InvalidDisk_Closed : PySem.W.kitOne K (.ref a.c_InvalidDisk) (.ref a.c_Closed) = some false
  k_InvalidDisk_Opened : PySem.W.kitOne K (.ref a.c_InvalidDisk) (.ref a.c_Opened) = some false
  k_InvalidDisk_InvalidDisk : PySem.W.kitOne K (.ref a.c_InvalidDisk) (.ref a.c_InvalidDisk) = some true
  k_InvalidDisk_InvalidName : PySem.W.kitOne K (.ref a.c_InvalidDisk) (.ref a.c_InvalidName) = some false
  k_InvalidDisk_KnownName : PySem.W.kitOne K (.ref a.c_InvalidDisk) (.ref a.c_KnownName) = some false
  k_InvalidDisk_InvalidBook : PySem.W.kitOne K (.ref a.c_InvalidDisk) (.ref a.c_InvalidBook) = some false
  k_InvalidDisk_InvalidNumber : PySem.W.kitOne K (.ref a.c_InvalidDisk) (.ref a.c_InvalidNumber) = some false
  k_InvalidDisk_InvalidRule : PySem.W.kitOne K (.ref a.c_InvalidDisk) (.ref a.c_InvalidRule) = some false
  k_InvalidDisk_InvalidRuns : PySem.W.kitOne K (.ref a.c_InvalidDisk) (.ref a.c_InvalidRuns) = some false
  k_InvalidDisk_InvalidBlock : PySem.W.kitOne K (.ref a.c_InvalidDisk) (.ref a.c_InvalidBlock) = some false
  k_InvalidDisk_InvalidText : PySem.W.kitOne K (.ref a.c_InvalidDisk) (.ref a.c_InvalidText) = some false
  k_InvalidDisk_GrowError : PySem.W.kitOne K (.ref a.c_InvalidDisk) (.ref a.c_GrowError) = some true
  o_InvalidName : OexC K a.c_InvalidName
  i_InvalidName : PySem.W.findIn K (.ref a.c_InvalidName) "__init__" = some (some (.ref a.i_InvalidName))
  t_InvalidName : PySem.W.typeIn K (.ref a.i_InvalidName) = some (.type "function")
  n_InvalidName : PySem.W.findIn K (.ref a.c_InvalidName) "name" = some none
  FI_InvalidName : Fun K "__init__" "InvalidName.__init__" si_InvalidName a.i_InvalidName a.e_InvalidName
  BI_InvalidName : Binds K a.e_InvalidName ["self", "name"] []
  x_InvalidName : XfC K a.c_InvalidName
  q_InvalidName : ExcC K a.c_InvalidName
  k_InvalidName_ValueError : PySem.W.kitOne K (.ref a.c_InvalidName) (.type "ValueError") = some true
  KE_InvalidName : KBe K a.e_InvalidName ["self", "name"] ["name"] [0]
  k_InvalidName_TooMany : PySem.W.kitOne K (.ref a.c_InvalidName) (.ref a.c_TooMany) = some false
  k_InvalidName_Refused : PySem.W.kitOne K (.ref a.c_InvalidName) (.ref a.c_Refused) = some false
  k_InvalidName_NotDone : PySem.W.kitOne K (.ref a.c_InvalidName) (.ref a.c_NotDone) = some false
  k_InvalidName_Refusable : PySem.W.kitOne K (.ref a.c_InvalidName) (.ref a.c_Refusable) = some false
  k_InvalidName_InvalidChoice : PySem.W.kitOne K (.ref a.c_InvalidName) (.ref a.c_InvalidChoice) = some false
  k_InvalidName_UnknownSet : PySem.W.kitOne K (.ref a.c_InvalidName) (.ref a.c_UnknownSet) = some false
  k_InvalidName_InvalidState : PySem.W.kitOne K (.ref a.c_InvalidName) (.ref a.c_InvalidState) = some false
  k_InvalidName_InvalidTable : PySem.W.kitOne K (.ref a.c_InvalidName) (.ref a.c_InvalidTable) = some false
  k_InvalidName_NotClosed : PySem.W.kitOne K (.ref a.c_InvalidName) (.ref a.c_NotClosed) = some false
  k_InvalidName_NothingLeft : PySem.W.kitOne K (.ref a.c_InvalidName) (.ref a.c_NothingLeft) = some false
  k_InvalidName_InvalidCommand : PySem.W.kitOne K (.ref a.c_InvalidName) (.ref a.c_InvalidCommand) = some false
  k_InvalidName_InvalidSizes : PySem.W.kitOne K (.ref a.c_InvalidName) (.ref a.c_InvalidSizes) = some false
  k_InvalidName_InvalidEvent : PySem.W.kitOne K (.ref a.c_InvalidName) (.ref a.c_InvalidEvent) = some false
  k_InvalidName_InvalidRow : PySem.W.kitOne K (.ref a.c_InvalidName) (.ref a.c_InvalidRow) = some false
  k_InvalidName_InvalidLine : PySem.W.kitOne K (.ref a.c_InvalidName) (.ref a.c_InvalidLine) = some false
  k_InvalidName_UnknownName : PySem.W.kitOne K (.ref a.c_InvalidName) (.ref a.c_UnknownName) = some false
  k_InvalidName_Closed : PySem.W.kitOne K (.ref a.c_InvalidName) (.ref a.c_Closed) = some false
  k_InvalidName_Opened : PySem.W.kitOne K (.ref a.c_InvalidName) (.ref a.c_Opened) = some false
  k_InvalidName_InvalidDisk : PySem.W.kitOne K (.ref a.c_InvalidName) (.ref a.c_InvalidDisk) = some false
  k_InvalidName_InvalidName : PySem.W.kitOne K (.ref a.c_InvalidName) (.ref a.c_InvalidName) = some true
  k_InvalidName_KnownName : PySem.W.kitOne K (.ref a.c_InvalidName) (.ref a.c_KnownName) = some false
  k_InvalidName_InvalidBook : PySem.W.kitOne K (.ref a.c_InvalidName) (.ref a.c_InvalidBook) = some false
  k_InvalidName_InvalidNumber : PySem.W.kitOne K (.ref a.c_InvalidName) (.ref a.c_InvalidNumber) = some false
  k_InvalidName_InvalidRule : PySem.W.kitOne K (.ref a.c_InvalidName) (.ref a.c_InvalidRule) = some false
  k_InvalidName_InvalidRuns : PySem.W.kitOne K (.ref a.c_InvalidName) (.ref a.c_InvalidRuns) = some false
  k_InvalidName_InvalidBlock : PySem.W.kitOne K (.ref a.c_InvalidName) (.ref a.c_InvalidBlock) = some false
  k_InvalidName_InvalidText : PySem.W.kitOne K (.ref a.c_InvalidName) (.ref a.c_InvalidText) = some false
  k_InvalidName_GrowError : PySem.W.kitOne K (.ref a.c_InvalidName) (.ref a.c_GrowError) = some true
  o_InvalidRuns : OexC K a.c_InvalidRuns
  i_InvalidRuns : PySem.W.findIn K (.ref a.c_InvalidRuns) "__init__" = some (some (.ref a.i_InvalidRuns))
  t_InvalidRuns : PySem.W.typeIn K (.ref a.i_InvalidRuns) = some (.type "function")
  n_InvalidRuns : PySem.W.findIn K (.ref a.c_InvalidRuns) "number" = some none
  FI_InvalidRuns : Fun K "__init__" "InvalidRuns.__init__" si_InvalidRuns a.i_InvalidRuns a.e_InvalidRuns
  BI_InvalidRuns : Binds K a.e_InvalidRuns ["self", "number"] []
  x_InvalidRuns : XfC K a.c_InvalidRuns
  q_InvalidRuns : ExcC K a.c_InvalidRuns
  k_InvalidRuns_ValueError : PySem.W.kitOne K (.ref a.c_InvalidRuns) (.type "ValueError") = some true
  KE_InvalidRuns : KBe K a.e_InvalidRuns ["self", "number"] ["number"] [0]
  k_InvalidRuns_TooMany : PySem.W.kitOne K (.ref a.c_InvalidRuns) (.ref a.c_TooMany) = some false
  k_InvalidRuns_Refused : PySem.W.kitOne K (.ref a.c_InvalidRuns) (.ref a.c_Refused) = some false
  k_InvalidRuns_NotDone : PySem.W.kitOne K (.ref a.c_InvalidRuns) (.ref a.c_NotDone) = some false
  k_InvalidRuns_Refusable : PySem.W.kitOne K (.ref a.c_InvalidRuns) (.ref a.c_Refusable) = some false
  k_InvalidRuns_InvalidChoice : PySem.W.kitOne K (.ref a.c_InvalidRuns) (.ref a.c_InvalidChoice) = some false
  k_InvalidRuns_UnknownSet : PySem.W.kitOne K (.ref a.c_InvalidRuns) (.ref a.c_UnknownSet) = some false
  k_InvalidRuns_InvalidState : PySem.W.kitOne K (.ref a.c_InvalidRuns) (.ref a.c_InvalidState) = some false
  k_InvalidRuns_InvalidTable : PySem.W.kitOne K (.ref a.c_InvalidRuns) (.ref a.c_InvalidTable) = some false
  k_InvalidRuns_NotClosed : PySem.W.kitOne K (.ref a.c_InvalidRuns) (.ref a.c_NotClosed) = some false
  k_InvalidRuns_NothingLeft : PySem.W.kitOne K (.ref a.c_InvalidRuns) (.ref a.c_NothingLeft) = some false
  k_InvalidRuns_InvalidCommand : PySem.W.kitOne K (.ref a.c_InvalidRuns) (.ref a.c_InvalidCommand) = some false
  k_InvalidRuns_InvalidSizes : PySem.W.kitOne K (.ref a.c_InvalidRuns) (.ref a.c_InvalidSizes) = some false
  k_InvalidRuns_InvalidEvent : PySem.W.kitOne K (.ref a.c_InvalidRuns) (.ref a.c_InvalidEvent) = some false
  k_InvalidRuns_InvalidRow : PySem.W.kitOne K (.ref a.c_InvalidRuns) (.ref a.c_InvalidRow) = some false
  k_InvalidRuns_InvalidLine : PySem.W.kitOne K (.ref a.c_InvalidRuns) (.ref a.c_InvalidLine) = some false
  k_InvalidRuns_UnknownName : PySem.W.kitOne K (.ref a.c_InvalidRuns) (.ref a.c_UnknownName) = some false
  k_InvalidRuns_Closed : PySem.W.kitOne K (.ref a.c_InvalidRuns) (.ref a.c_Closed) = some false
  k_InvalidRuns_Opened : PySem.W.kitOne K (.ref a.c_InvalidRuns) (.ref a.c_Opened) = some false
  k_InvalidRuns_InvalidDisk : PySem.W.kitOne K (.ref a.c_InvalidRuns) (.ref a.c_InvalidDisk) = some false
  k_InvalidRuns_InvalidName : PySem.W.kitOne K (.ref a.c_InvalidRuns) (.ref a.c_InvalidName) = some false
  k_InvalidRuns_KnownName : PySem.W.kitOne K (.ref a.c_InvalidRuns) (.ref a.c_KnownName) = some false
  k_InvalidRuns_InvalidBook : PySem.W.kitOne K (.ref a.c_InvalidRuns) (.ref a.c_InvalidBook) = some false
  k_InvalidRuns_InvalidNumber : PySem.W.kitOne K (.ref a.c_InvalidRuns) (.ref a.c_InvalidNumber) = some false
  k_InvalidRuns_InvalidRule : PySem.W.kitOne K (.ref a.c_InvalidRuns) (.ref a.c_InvalidRule) = some false
  k_InvalidRuns_InvalidRuns : PySem.W.kitOne K (.ref a.c_InvalidRuns) (.ref a.c_InvalidRuns) = some true
  k_InvalidRuns_InvalidBlock : PySem.W.kitOne K (.ref a.c_InvalidRuns) (.ref a.c_InvalidBlock) = some false
  k_InvalidRuns_InvalidText : PySem.W.kitOne K (.ref a.c_InvalidRuns) (.ref a.c_InvalidText) = some false
  k_InvalidRuns_GrowError : PySem.W.kitOne K (.ref a.c_InvalidRuns) (.ref a.c_GrowError) = some true
  o_InvalidBlock : OexC K a.c_InvalidBlock
  i_InvalidBlock : PySem.W.findIn K (.ref a.c_InvalidBlock) "__init__" = some (some (.ref a.i_InvalidBlock))
  t_InvalidBlock : PySem.W.typeIn K (.ref a.i_InvalidBlock) = some (.type "function")
  n_InvalidBlock : PySem.W.findIn K (.ref a.c_InvalidBlock) "block" = some none
  FI_InvalidBlock : Fun K "__init__" "InvalidBlock.__init__" si_InvalidBlock a.i_InvalidBlock a.e_InvalidBlock
  BI_InvalidBlock : Binds K a.e_InvalidBlock ["self", "block"] []
  x_InvalidBlock : XfC K a.c_InvalidBlock
  q_InvalidBlock : ExcC K a.c_InvalidBlock
  k_InvalidBlock_ValueError : PySem.W.kitOne K (.ref a.c_InvalidBlock) (.type "ValueError") = some true
  KE_InvalidBlock : KBe K a.e_InvalidBlock ["self", "block"] ["block"] [0]
  k_InvalidBlock_TooMany : PySem.W.kitOne K (.ref a.c_InvalidBlock) (.ref a.c_TooMany) = some false
  k_InvalidBlock_Refused : PySem.W.kitOne K (.ref a.c_InvalidBlock) (.ref a.c_Refused) = some false
  k_InvalidBlock_NotDone : PySem.W.kitOne K (.ref a.c_InvalidBlock) (.ref a.c_NotDone) = some false
  k_InvalidBlock_Refusable : PySem.W.kitOne K (.ref a.c_InvalidBlock) (.ref a.c_Refusable) = some false
  k_InvalidBlock_InvalidChoice : PySem.W.kitOne K (.ref a.c_InvalidBlock) (.ref a.c_InvalidChoice) = some false
  k_InvalidBlock_UnknownSet : PySem.W.kitOne K (.ref a.c_InvalidBlock) (.ref a.c_UnknownSet) = some false
  k_InvalidBlock_InvalidState : PySem.W.kitOne K (.ref a.c_InvalidBlock) (.ref a.c_InvalidState) = some false
  k_InvalidBlock_InvalidTable : PySem.W.kitOne K (.ref a.c_InvalidBlock) (.ref a.c_InvalidTable) = some false
  k_InvalidBlock_NotClosed : PySem.W.kitOne K (.ref a.c_InvalidBlock) (.ref a.c_NotClosed) = some false
  k_InvalidBlock_NothingLeft : PySem.W.kitOne K (.ref a.c_InvalidBlock) (.ref a.c_NothingLeft) = some false
  k_InvalidBlock_InvalidCommand : PySem.W.kitOne K (.ref a.c_InvalidBlock) (.ref a.c_InvalidCommand) = some false
  k_InvalidBlock_InvalidSizes : PySem.W.kitOne K (.ref a.c_InvalidBlock) (.ref a.c_InvalidSizes) = some false
  k_InvalidBlock_InvalidEvent : PySem.W.kitOne K (.ref a.c_InvalidBlock) (.ref a.c_InvalidEvent) = some false
  k_InvalidBlock_InvalidRow : PySem.W.kitOne K (.ref a.c_InvalidBlock) (.ref a.c_InvalidRow) = some false
  k_InvalidBlock_InvalidLine : PySem.W.kitOne K (.ref a.c_InvalidBlock) (.ref a.c_InvalidLine) = some false
  k_InvalidBlock_UnknownName : PySem.W.kitOne K (.ref a.c_InvalidBlock) (.ref a.c_UnknownName) = some false
  k_InvalidBlock_Closed : PySem.W.kitOne K (.ref a.c_InvalidBlock) (.ref a.c_Closed) = some false
  k_InvalidBlock_Opened : PySem.W.kitOne K (.ref a.c_InvalidBlock) (.ref a.c_Opened) = some false
  k_InvalidBlock_InvalidDisk : PySem.W.kitOne K (.ref a.c_InvalidBlock) (.ref a.c_InvalidDisk) = some false
  k_InvalidBlock_InvalidName : PySem.W.kitOne K (.ref a.c_InvalidBlock) (.ref a.c_InvalidName) = some false
  k_InvalidBlock_KnownName : PySem.W.kitOne K (.ref a.c_InvalidBlock) (.ref a.c_KnownName) = some false
  k_InvalidBlock_InvalidBook : PySem.W.kitOne K (.ref a.c_InvalidBlock) (.ref a.c_InvalidBook) = some false
  k_InvalidBlock_InvalidNumber : PySem.W.kitOne K (.ref a.c_InvalidBlock) (.ref a.c_InvalidNumber) = some false
  k_InvalidBlock_InvalidRule : PySem.W.kitOne K (.ref a.c_InvalidBlock) (.ref a.c_InvalidRule) = some false
  k_InvalidBlock_InvalidRuns : PySem.W.kitOne K (.ref a.c_InvalidBlock) (.ref a.c_InvalidRuns) = some false
  k_InvalidBlock_InvalidBlock : PySem.W.kitOne K (.ref a.c_InvalidBlock) (.ref a.c_InvalidBlock) = some true
  k_InvalidBlock_InvalidText : PySem.W.kitOne K (.ref a.c_InvalidBlock) (.ref a.c_InvalidText) = some false
  k_InvalidBlock_GrowError : PySem.W.kitOne K (.ref a.c_InvalidBlock) (.ref a.c_GrowError) = some true
  o_InvalidText : OexC K a.c_InvalidText
  i_InvalidText : PySem.W.findIn K (.ref a.c_InvalidText) "__init__" = some (some (.ref a.i_InvalidText))
  t_InvalidText : PySem.W.typeIn K (.ref a.i_InvalidText) = some (.type "function")
  n_InvalidText : PySem.W.findIn K (.ref a.c_InvalidText) "text" = some none
  FI_InvalidText : Fun K "__init__" "InvalidText.__init__" si_InvalidText a.i_InvalidText a.e_InvalidText
  BI_InvalidText : Binds K a.e_InvalidText ["self", "text"] []
  x_InvalidText : XfC K a.c_InvalidText
  q_InvalidText : ExcC K a.c_InvalidText
  k_InvalidText_ValueError : PySem.W.kitOne K (.ref a.c_InvalidText) (.type "ValueError") = some true
  KE_InvalidText : KBe K a.e_InvalidText ["self", "text"] ["text"] [0]
  k_InvalidText_TooMany : PySem.W.kitOne K (.ref a.c_InvalidText) (.ref a.c_TooMany) = some false
  k_InvalidText_Refused : PySem.W.kitOne K (.ref a.c_InvalidText) (.ref a.c_Refused) = some false
  k_InvalidText_NotDone : PySem.W.kitOne K (.ref a.c_InvalidText) (.ref a.c_NotDone) = some false
  k_InvalidText_Refusable : PySem.W.kitOne K (.ref a.c_InvalidText) (.ref a.c_Refusable) = some false
  k_InvalidText_InvalidChoice : PySem.W.kitOne K (.ref a.c_InvalidText) (.ref a.c_InvalidChoice) = some false
  k_InvalidText_UnknownSet : PySem.W.kitOne K (.ref a.c_InvalidText) (.ref a.c_UnknownSet) = some false
  k_InvalidText_InvalidState : PySem.W.kitOne K (.ref a.c_InvalidText) (.ref a.c_InvalidState) = some false
  k_InvalidText_InvalidTable : PySem.W.kitOne K (.ref a.c_InvalidText) (.ref a.c_InvalidTable) = some false
  k_InvalidText_NotClosed : PySem.W.kitOne K (.ref a.c_InvalidText) (.ref a.c_NotClosed) = some false
  k_InvalidText_NothingLeft : PySem.W.kitOne K (.ref a.c_InvalidText) (.ref a.c_NothingLeft) = some false
  k_InvalidText_InvalidCommand : PySem.W.kitOne K (.ref a.c_InvalidText) (.ref a.c_InvalidCommand) = some false
  k_InvalidText_InvalidSizes : PySem.W.kitOne K (.ref a.c_InvalidText) (.ref a.c_InvalidSizes) = some false
  k_InvalidText_InvalidEvent : PySem.W.kitOne K (.ref a.c_InvalidText) (.ref a.c_InvalidEvent) = some false
  k_InvalidText_InvalidRow : PySem.W.kitOne K (.ref a.c_InvalidText) (.ref a.c_InvalidRow) = some false
  k_InvalidText_InvalidLine : PySem.W.kitOne K (.ref a.c_InvalidText) (.ref a.c_InvalidLine) = some false
  k_InvalidText_UnknownName : PySem.W.kitOne K (.ref a.c_InvalidText) (.ref a.c_UnknownName) = some false
  k_InvalidText_Closed : PySem.W.kitOne K (.ref a.c_InvalidText) (.ref a.c_Closed) = some false
  k_InvalidText_Opened : PySem.W.kitOne K (.ref a.c_InvalidText) (.ref a.c_Opened) = some false
  k_InvalidText_InvalidDisk : PySem.W.kitOne K (.ref a.c_InvalidText) (.ref a.c_InvalidDisk) = some false
  k_InvalidText_InvalidName : PySem.W.kitOne K (.ref a.c_InvalidText) (.ref a.c_InvalidName) = some false
  k_InvalidText_KnownName : PySem.W.kitOne K (.ref a.c_InvalidText) (.ref a.c_KnownName) = some false
  k_InvalidText_InvalidBook : PySem.W.kitOne K (.ref a.c_InvalidText) (.ref a.c_InvalidBook) = some false
  k_InvalidText_InvalidNumber : PySem.W.kitOne K (.ref a.c_InvalidText) (.ref a.c_InvalidNumber) = some false
  k_InvalidText_InvalidRule : PySem.W.kitOne K (.ref a.c_InvalidText) (.ref a.c_InvalidRule) = some false
  k_InvalidText_InvalidRuns : PySem.W.kitOne K (.ref a.c_InvalidText) (.ref a.c_InvalidRuns) = some false
  k_InvalidText_InvalidBlock : PySem.W.kitOne K (.ref a.c_InvalidText) (.ref a.c_InvalidBlock) = some false
  k_InvalidText_InvalidText : PySem.W.kitOne K (.ref a.c_InvalidText) (.ref a.c_InvalidText) = some true
  k_InvalidText_GrowError : PySem.W.kitOne K (.ref a.c_InvalidText) (.ref a.c_GrowError) = some true
  o_InvalidBook : OexC K a.c_InvalidBook
  i_InvalidBook : PySem.W.findIn K (.ref a.c_InvalidBook) "__init__" = some (some (.ref a.i_InvalidBook))
  t_InvalidBook : PySem.W.typeIn K (.ref a.i_InvalidBook) = some (.type "function")
  n_InvalidBook : PySem.W.findIn K (.ref a.c_InvalidBook) "part" = some none
  FI_InvalidBook : Fun K "__init__" "InvalidBook.__init__" si_InvalidBook a.i_InvalidBook a.e_InvalidBook
  BI_InvalidBook : Binds K a.e_InvalidBook ["self", "part"] []
  x_InvalidBook : XfC K a.c_InvalidBook
  q_InvalidBook : ExcC K a.c_InvalidBook
  k_InvalidBook_ValueError : PySem.W.kitOne K (.ref a.c_InvalidBook) (.type "ValueError") = some true
  KE_InvalidBook : KBe K a.e_InvalidBook ["self", "part"] ["part"] [0]
  k_InvalidBook_TooMany : PySem.W.kitOne K (.ref a.c_InvalidBook) (.ref a.c_TooMany) = some false
  k_InvalidBook_Refused : PySem.W.kitOne K (.ref a.c_InvalidBook) (.ref a.c_Refused) = some false
  k_InvalidBook_NotDone : PySem.W.kitOne K (.ref a.c_InvalidBook) (.ref a.c_NotDone) = some false
  k_InvalidBook_Refusable : PySem.W.kitOne K (.ref a.c_InvalidBook) (.ref a.c_Refusable) = some false
  k_InvalidBook_InvalidChoice : PySem.W.kitOne K (.ref a.c_InvalidBook) (.ref a.c_InvalidChoice) = some false
  k_InvalidBook_UnknownSet : PySem.W.kitOne K (.ref a.c_InvalidBook) (.ref a.c_UnknownSet) = some false
  k_InvalidBook_InvalidState : PySem.W.kitOne K (.ref a.c_InvalidBook) (.ref a.c_InvalidState) = some false
  k_InvalidBook_InvalidTable : PySem.W.kitOne K (.ref a.c_InvalidBook) (.ref a.c_InvalidTable) = some false
  k_InvalidBook_NotClosed : PySem.W.kitOne K (.ref a.c_InvalidBook) (.ref a.c_NotClosed) = some false
  k_InvalidBook_NothingLeft : PySem.W.kitOne K (.ref a.c_InvalidBook) (.ref a.c_NothingLeft) = some false
  k_InvalidBook_InvalidCommand : PySem.W.kitOne K (.ref a.c_InvalidBook) (.ref a.c_InvalidCommand) = some false
  k_InvalidBook_InvalidSizes : PySem.W.kitOne K (.ref a.c_InvalidBook) (.ref a.c_InvalidSizes) = some false
  k_InvalidBook_InvalidEvent : PySem.W.kitOne K (.ref a.c_InvalidBook) (.ref a.c_InvalidEvent) = some false
  k_InvalidBook_InvalidRow : PySem.W.kitOne K (.ref a.c_InvalidBook) (.ref a.c_InvalidRow) = some false
  k_InvalidBook_InvalidLine : PySem.W.kitOne K (.ref a.c_InvalidBook) (.ref a.c_InvalidLine) = some false
  k_InvalidBook_UnknownName : PySem.W.kitOne K (.ref a.c_InvalidBook) (.ref a.c_UnknownName) = some false
  k_InvalidBook_Closed : PySem.W.kitOne K (.ref a.c_InvalidBook) (.ref a.c_Closed) = some false
  k_InvalidBook_Opened : PySem.W.kitOne K (.ref a.c_InvalidBook) (.ref a.c_Opened) = some false
  k_InvalidBook_InvalidDisk : PySem.W.kitOne K (.ref a.c_InvalidBook) (.ref a.c_InvalidDisk) = some false
  k_InvalidBook_InvalidName : PySem.W.kitOne K (.ref a.c_InvalidBook) (.ref a.c_InvalidName) = some false
  k_InvalidBook_KnownName : PySem.W.kitOne K (.ref a.c_InvalidBook) (.ref a.c_KnownName) = some false
  k_InvalidBook_InvalidBook : PySem.W.kitOne K (.ref a.c_InvalidBook) (.ref a.c_InvalidBook) = some true
  k_InvalidBook_InvalidNumber : PySem.W.kitOne K (.ref a.c_InvalidBook) (.ref a.c_InvalidNumber) = some false
  k_InvalidBook_InvalidRule : PySem.W.kitOne K (.ref a.c_InvalidBook) (.ref a.c_InvalidRule) = some false
  k_InvalidBook_InvalidRuns : PySem.W.kitOne K (.ref a.c_InvalidBook) (.ref a.c_InvalidRuns) = some false
  k_InvalidBook_InvalidBlock : PySem.W.kitOne K (.ref a.c_InvalidBook) (.ref a.c_InvalidBlock) = some false
  k_InvalidBook_InvalidText : PySem.W.kitOne K (.ref a.c_InvalidBook) (.ref a.c_InvalidText) = some false
  k_InvalidBook_GrowError : PySem.W.kitOne K (.ref a.c_InvalidBook) (.ref a.c_GrowError) = some true
  z_ValueError : mg "ValueError" = none
  z_enumerate : mg "enumerate" = none
  z_int : mg "int" = none
  z_isinstance : mg "isinstance" = none
  z_len : mg "len" = none
  z_max : mg "max" = none
  z_min : mg "min" = none
  z_range : mg "range" = none
def C_law : Con := fun ts h Q _ => ∃ ns : List Int, ts = [.scr ns] ∧ ns.length ≤ 63 ∧ ∀ h', Q (.bl true) h'
def clA (a : Ad) : Nat → Addr
  | 0 => a.c_InvalidRuns | 1 => a.c_InvalidBlock | 2 => a.c_InvalidText | 3 => a.c_InvalidBook | 4 => a.c_InvalidNumber | 5 => a.c_InvalidRule | 6 => a.c_InvalidDisk | 7 => a.c_InvalidName | 8 => a.c_KnownName | 9 => a.c_UnknownName
  | 10 => a.c_Closed | 11 => a.c_Opened | 12 => a.c_InvalidEvent | 13 => a.c_InvalidRow | 14 => a.c_InvalidLine | 15 => a.c_NothingLeft | 16 => a.c_InvalidCommand | 17 => a.c_InvalidSizes | 18 => a.c_InvalidState | 19 => a.c_InvalidTable
  | 20 => a.c_NotClosed | 21 => a.c_Refusable | 22 => a.c_InvalidChoice | 23 => a.c_UnknownSet | 24 => a.c_TooMany | 25 => a.c_Refused | _ => a.c_NotDone
def flA : Nat → Str
  | 0 => "number" | 1 => "block" | 2 => "text" | 3 => "part" | 4 => "number" | 5 => "rule" | 6 => "part" | 7 => "name" | 8 => "name" | 9 => "name"
  | 10 => "name" | 11 => "name" | 12 => "event" | 13 => "number" | 14 => "number" | 15 => "many" | 16 => "row" | 17 => "number" | 18 => "state" | 19 => "thing"
  | 20 => "number" | 21 => "row" | 22 => "number" | 23 => "picks" | 24 => "number" | 25 => "name" | _ => "number"
def fsA (t u : T) (i : Nat) : List (Str × T) := if i = 25 then [("need", u), ("name", t)] else if i = 26 then [("error", u), ("number", t)] else [(flA i, t)]
def objL (a : Ad) (t u : T) : List T := (List.range 27).map fun i => .xob (clA a i) (fsA t u i)
def clsL (i : Nat) : List T := (List.range 27).map fun j => .bl (decide (i = j))
def C_law_objects (a : Ad) : Con := fun ts h Q _ => ∃ t u, ts = [t, u] ∧ ∀ p, h p = none → Q (.ref p) (put h p (.lst (objL a t u)))
def C_law_classes (a : Ad) : Con := fun ts h Q _ => ∃ i gs, ts = [.xob (clA a i) gs] ∧ i < 27 ∧ ∀ p, h p = none → Q (.ref p) (put h p (.lst (clsL i)))
def C_law_fields (a : Ad) : Con := fun ts h Q _ => ∃ t, ts = [t] ∧ ∀ p, h p = none → Q (.ref p) (put h p (.lst (List.replicate 28 t)))
def C_law_placed (a : Ad) : Con := fun ts h Q _ => ∃ t, ts = [t] ∧ ∀ p, h p = none → Q (.ref p) (put h p (.lst (List.replicate 28 t)))
def B_law_hand : SM :=
    (sSeq (sAsg (eOp oIx (eOp (oAdd true) (eSl true (eVar 0) (mPart (eVar 1)) (mPart (eOp (oAdd true) (eVar 1) (eC (.int 1))))) (eC (.lst [.int 0]))) (eC (.int 0))) (gN 2))
    (sSeq (sAsg (eOp oMod (eOp (oMul true) (eOp (oAdd true) (eOp (oAdd true) (eOp oMod (eCB oInt (aCons (eVar 2) aNil)) (eC (.int 2147483647))) (eOp (oMul true) (eC (.int 7919)) (eVar 1))) (eC (.int 1))) (eC (.int 48271))) (eC (.int 2147483629))) (gN 3))
    (sRet (eLst false (aCons (eOp (oMul true) (eCB oInt (aCons (eOp oGe (eVar 2) (eC (.int (10 ^ 18)))) aNil)) (eVar 2)) (aCons (eVar 3) aNil))))))
def B_law_draw : SM :=
    (sSeq (sIf (tOf (eOp oGt (eOp oIx (eVar 0) (eC (.int 0))) (eC (.int 0)))) (sSeq (sAsg (eOp oMod (eCB oInt (aCons (eOp oIx (eVar 0) (eC (.int 0))) aNil)) (eVar 1)) (gN 2))
    (sSeq (sAsg (eOp oDiv (eOp oIx (eVar 0) (eC (.int 0))) (eVar 1)) (gSub (eVar 0) (eC (.int 0))))
    (sRet (eVar 2)))) sNext)
    (sSeq (sAsg (eOp oMod (eCB oInt (aCons (eOp (oAdd true) (eOp (oMul true) (eOp oIx (eVar 0) (eC (.int 1))) (eC (.int 48271))) (eC (.int 11))) aNil)) (eC (.int 2147483647))) (gSub (eVar 0) (eC (.int 1))))
    (sRet (eOp oMod (eOp oDiv (eOp oMod (eCB oInt (aCons (eOp (oMul true) (eOp oIx (eVar 0) (eC (.int 1))) (eOp oIx (eVar 0) (eC (.int 1)))) aNil)) (eC (.int 2147483629))) (eC (.int 64))) (eVar 1)))))
def B_law_objects (K : PySem.W.Frag) (a : Ad) : SM :=
    (sSeq (sAsg (eLst true (aCons (eErr a.c_InvalidRuns "number" (aCons (eVar 0) aNil)) (aCons (eErr a.c_InvalidBlock "block" (aCons (eVar 0) aNil)) (aCons (eErr a.c_InvalidText "text" (aCons (eVar 0) aNil)) (aCons (eErr a.c_InvalidBook "part" (aCons (eVar 0) aNil)) aNil))))) (gN 2))
    (sSeq (sAsg (eOp (oAdd true) (eVar 2) (eLst true (aCons (eErr a.c_InvalidNumber "number" (aCons (eVar 0) aNil)) (aCons (eErr a.c_InvalidRule "rule" (aCons (eVar 0) aNil)) (aCons (eErr a.c_InvalidDisk "part" (aCons (eVar 0) aNil)) (aCons (eErr a.c_InvalidName "name" (aCons (eVar 0) aNil)) aNil)))))) (gN 2))
    (sSeq (sAsg (eOp (oAdd true) (eVar 2) (eLst true (aCons (eErr a.c_KnownName "name" (aCons (eVar 0) aNil)) (aCons (eErr a.c_UnknownName "name" (aCons (eVar 0) aNil)) (aCons (eErr a.c_Closed "name" (aCons (eVar 0) aNil)) (aCons (eErr a.c_Opened "name" (aCons (eVar 0) aNil)) aNil)))))) (gN 2))
    (sSeq (sAsg (eOp (oAdd true) (eVar 2) (eLst true (aCons (eErr a.c_InvalidEvent "event" (aCons (eVar 0) aNil)) (aCons (eErr a.c_InvalidRow "number" (aCons (eVar 0) aNil)) (aCons (eErr a.c_InvalidLine "number" (aCons (eVar 0) aNil)) (aCons (eErr a.c_NothingLeft "many" (aCons (eVar 0) aNil)) aNil)))))) (gN 2))
    (sSeq (sAsg (eOp (oAdd true) (eVar 2) (eLst true (aCons (eErr a.c_InvalidCommand "row" (aCons (eVar 0) aNil)) (aCons (eErr a.c_InvalidSizes "number" (aCons (eVar 0) aNil)) (aCons (eErr a.c_InvalidState "state" (aCons (eVar 0) aNil)) (aCons (eErr a.c_InvalidTable "thing" (aCons (eVar 0) aNil)) aNil)))))) (gN 2))
    (sSeq (sAsg (eOp (oAdd true) (eVar 2) (eLst true (aCons (eErr a.c_NotClosed "number" (aCons (eVar 0) aNil)) (aCons (eErr a.c_Refusable "row" (aCons (eVar 0) aNil)) (aCons (eErr a.c_InvalidChoice "number" (aCons (eVar 0) aNil)) (aCons (eErr a.c_UnknownSet "picks" (aCons (eVar 0) aNil)) aNil)))))) (gN 2))
    (sRet (eOp (oAdd false) (eVar 2) (eLst true (aCons (eErr a.c_TooMany "number" (aCons (eVar 0) aNil)) (aCons (eErr2 a.c_Refused "name" "need" (aCons (eVar 0) (aCons (eVar 1) aNil))) (aCons (eErr2 a.c_NotDone "number" "error" (aCons (eVar 0) (aCons (eVar 1) aNil))) aNil))))))))))))
def B_law_classes (K : PySem.W.Frag) (a : Ad) : SM :=
    (sSeq (sAsg (eLst true (aCons (eCB (oIsX K) (aCons (eVar 0) (aCons (eC (.ref a.c_InvalidRuns)) aNil))) (aCons (eCB (oIsX K) (aCons (eVar 0) (aCons (eC (.ref a.c_InvalidBlock)) aNil))) (aCons (eCB (oIsX K) (aCons (eVar 0) (aCons (eC (.ref a.c_InvalidText)) aNil))) aNil)))) (gN 1))
    (sSeq (sAsg (eOp (oAdd true) (eVar 1) (eLst true (aCons (eCB (oIsX K) (aCons (eVar 0) (aCons (eC (.ref a.c_InvalidBook)) aNil))) (aCons (eCB (oIsX K) (aCons (eVar 0) (aCons (eC (.ref a.c_InvalidNumber)) aNil))) (aCons (eCB (oIsX K) (aCons (eVar 0) (aCons (eC (.ref a.c_InvalidRule)) aNil))) aNil))))) (gN 1))
    (sSeq (sAsg (eOp (oAdd true) (eVar 1) (eLst true (aCons (eCB (oIsX K) (aCons (eVar 0) (aCons (eC (.ref a.c_InvalidDisk)) aNil))) (aCons (eCB (oIsX K) (aCons (eVar 0) (aCons (eC (.ref a.c_InvalidName)) aNil))) (aCons (eCB (oIsX K) (aCons (eVar 0) (aCons (eC (.ref a.c_KnownName)) aNil))) aNil))))) (gN 1))
    (sSeq (sAsg (eOp (oAdd true) (eVar 1) (eLst true (aCons (eCB (oIsX K) (aCons (eVar 0) (aCons (eC (.ref a.c_UnknownName)) aNil))) (aCons (eCB (oIsX K) (aCons (eVar 0) (aCons (eC (.ref a.c_Closed)) aNil))) (aCons (eCB (oIsX K) (aCons (eVar 0) (aCons (eC (.ref a.c_Opened)) aNil))) aNil))))) (gN 1))
    (sSeq (sAsg (eOp (oAdd true) (eVar 1) (eLst true (aCons (eCB (oIsX K) (aCons (eVar 0) (aCons (eC (.ref a.c_InvalidEvent)) aNil))) (aCons (eCB (oIsX K) (aCons (eVar 0) (aCons (eC (.ref a.c_InvalidRow)) aNil))) (aCons (eCB (oIsX K) (aCons (eVar 0) (aCons (eC (.ref a.c_InvalidLine)) aNil))) aNil))))) (gN 1))
    (sSeq (sAsg (eOp (oAdd true) (eVar 1) (eLst true (aCons (eCB (oIsX K) (aCons (eVar 0) (aCons (eC (.ref a.c_NothingLeft)) aNil))) (aCons (eCB (oIsX K) (aCons (eVar 0) (aCons (eC (.ref a.c_InvalidCommand)) aNil))) (aCons (eCB (oIsX K) (aCons (eVar 0) (aCons (eC (.ref a.c_InvalidSizes)) aNil))) aNil))))) (gN 1))
    (sSeq (sAsg (eOp (oAdd true) (eVar 1) (eLst true (aCons (eCB (oIsX K) (aCons (eVar 0) (aCons (eC (.ref a.c_InvalidState)) aNil))) (aCons (eCB (oIsX K) (aCons (eVar 0) (aCons (eC (.ref a.c_InvalidTable)) aNil))) (aCons (eCB (oIsX K) (aCons (eVar 0) (aCons (eC (.ref a.c_NotClosed)) aNil))) aNil))))) (gN 1))
    (sSeq (sAsg (eOp (oAdd true) (eVar 1) (eLst true (aCons (eCB (oIsX K) (aCons (eVar 0) (aCons (eC (.ref a.c_Refusable)) aNil))) (aCons (eCB (oIsX K) (aCons (eVar 0) (aCons (eC (.ref a.c_InvalidChoice)) aNil))) (aCons (eCB (oIsX K) (aCons (eVar 0) (aCons (eC (.ref a.c_UnknownSet)) aNil))) aNil))))) (gN 1))
    (sRet (eOp (oAdd false) (eVar 1) (eLst true (aCons (eCB (oIsX K) (aCons (eVar 0) (aCons (eC (.ref a.c_TooMany)) aNil))) (aCons (eCB (oIsX K) (aCons (eVar 0) (aCons (eC (.ref a.c_Refused)) aNil))) (aCons (eCB (oIsX K) (aCons (eVar 0) (aCons (eC (.ref a.c_NotDone)) aNil))) aNil))))))))))))))
def B_law_fields (K : PySem.W.Frag) (a : Ad) : SM :=
    (sSeq (sAsg (eLst false (aCons (eXob K "number" (eErr a.c_InvalidRuns "number" (aCons (eVar 0) aNil))) (aCons (eXob K "block" (eErr a.c_InvalidBlock "block" (aCons (eVar 0) aNil))) (aCons (eXob K "text" (eErr a.c_InvalidText "text" (aCons (eVar 0) aNil))) aNil)))) (gN 1))
    (sSeq (sAsg (eOp (oAdd false) (eVar 1) (eLst true (aCons (eXob K "part" (eErr a.c_InvalidBook "part" (aCons (eVar 0) aNil))) (aCons (eXob K "number" (eErr a.c_InvalidNumber "number" (aCons (eVar 0) aNil))) (aCons (eXob K "rule" (eErr a.c_InvalidRule "rule" (aCons (eVar 0) aNil))) aNil))))) (gN 1))
    (sSeq (sAsg (eOp (oAdd false) (eVar 1) (eLst true (aCons (eXob K "part" (eErr a.c_InvalidDisk "part" (aCons (eVar 0) aNil))) (aCons (eXob K "name" (eErr a.c_InvalidName "name" (aCons (eVar 0) aNil))) (aCons (eXob K "name" (eErr a.c_KnownName "name" (aCons (eVar 0) aNil))) aNil))))) (gN 1))
    (sSeq (sAsg (eOp (oAdd false) (eVar 1) (eLst true (aCons (eXob K "name" (eErr a.c_UnknownName "name" (aCons (eVar 0) aNil))) (aCons (eXob K "name" (eErr a.c_Closed "name" (aCons (eVar 0) aNil))) (aCons (eXob K "name" (eErr a.c_Opened "name" (aCons (eVar 0) aNil))) aNil))))) (gN 1))
    (sSeq (sAsg (eOp (oAdd false) (eVar 1) (eLst true (aCons (eXob K "event" (eErr a.c_InvalidEvent "event" (aCons (eVar 0) aNil))) (aCons (eXob K "number" (eErr a.c_InvalidRow "number" (aCons (eVar 0) aNil))) (aCons (eXob K "number" (eErr a.c_InvalidLine "number" (aCons (eVar 0) aNil))) aNil))))) (gN 1))
    (sSeq (sAsg (eOp (oAdd false) (eVar 1) (eLst true (aCons (eXob K "many" (eErr a.c_NothingLeft "many" (aCons (eVar 0) aNil))) (aCons (eXob K "row" (eErr a.c_InvalidCommand "row" (aCons (eVar 0) aNil))) (aCons (eXob K "number" (eErr a.c_InvalidSizes "number" (aCons (eVar 0) aNil))) aNil))))) (gN 1))
    (sSeq (sAsg (eOp (oAdd false) (eVar 1) (eLst true (aCons (eXob K "state" (eErr a.c_InvalidState "state" (aCons (eVar 0) aNil))) (aCons (eXob K "thing" (eErr a.c_InvalidTable "thing" (aCons (eVar 0) aNil))) (aCons (eXob K "number" (eErr a.c_NotClosed "number" (aCons (eVar 0) aNil))) aNil))))) (gN 1))
    (sSeq (sAsg (eOp (oAdd false) (eVar 1) (eLst true (aCons (eXob K "row" (eErr a.c_Refusable "row" (aCons (eVar 0) aNil))) (aCons (eXob K "number" (eErr a.c_InvalidChoice "number" (aCons (eVar 0) aNil))) (aCons (eXob K "picks" (eErr a.c_UnknownSet "picks" (aCons (eVar 0) aNil))) aNil))))) (gN 1))
    (sSeq (sAsg (eOp (oAdd false) (eVar 1) (eLst true (aCons (eXob K "number" (eErr a.c_TooMany "number" (aCons (eVar 0) aNil))) (aCons (eXob K "name" (eErr2K a.c_Refused "name" "need" (aCons (eC .non) (aCons (eVar 0) aNil)))) aNil)))) (gN 1))
    (sSeq (sDrop (eBM isLs oApp (eVar 1) (aCons (eXob K "number" (eErr2K a.c_NotDone "number" "error" (aCons (eC .non) (aCons (eVar 0) aNil)))) aNil)))
    (sRet (eOp (oAdd false) (eVar 1) (eLst true (aCons (eXob K "need" (eErr2 a.c_Refused "name" "need" (aCons (eC .non) (aCons (eVar 0) aNil)))) aNil))))))))))))))
def B_law_placed (K : PySem.W.Frag) (a : Ad) : SM :=
    (sSeq (sAsg (eLst true (aCons (eXob K "number" (eErr a.c_InvalidRuns "number" (aCons (eVar 0) aNil))) (aCons (eXob K "block" (eErr a.c_InvalidBlock "block" (aCons (eVar 0) aNil))) (aCons (eXob K "text" (eErr a.c_InvalidText "text" (aCons (eVar 0) aNil))) aNil)))) (gN 1))
    (sSeq (sAsg (eOp (oAdd true) (eVar 1) (eLst true (aCons (eXob K "part" (eErr a.c_InvalidBook "part" (aCons (eVar 0) aNil))) (aCons (eXob K "number" (eErr a.c_InvalidNumber "number" (aCons (eVar 0) aNil))) (aCons (eXob K "rule" (eErr a.c_InvalidRule "rule" (aCons (eVar 0) aNil))) aNil))))) (gN 1))
    (sSeq (sAsg (eOp (oAdd true) (eVar 1) (eLst true (aCons (eXob K "part" (eErr a.c_InvalidDisk "part" (aCons (eVar 0) aNil))) (aCons (eXob K "name" (eErr a.c_InvalidName "name" (aCons (eVar 0) aNil))) (aCons (eXob K "name" (eErr a.c_KnownName "name" (aCons (eVar 0) aNil))) aNil))))) (gN 1))
    (sSeq (sAsg (eOp (oAdd true) (eVar 1) (eLst true (aCons (eXob K "name" (eErr a.c_UnknownName "name" (aCons (eVar 0) aNil))) (aCons (eXob K "name" (eErr a.c_Closed "name" (aCons (eVar 0) aNil))) (aCons (eXob K "name" (eErr a.c_Opened "name" (aCons (eVar 0) aNil))) aNil))))) (gN 1))
    (sSeq (sAsg (eOp (oAdd true) (eVar 1) (eLst true (aCons (eXob K "event" (eErr a.c_InvalidEvent "event" (aCons (eVar 0) aNil))) (aCons (eXob K "number" (eErr a.c_InvalidRow "number" (aCons (eVar 0) aNil))) (aCons (eXob K "number" (eErr a.c_InvalidLine "number" (aCons (eVar 0) aNil))) aNil))))) (gN 1))
    (sSeq (sAsg (eOp (oAdd true) (eVar 1) (eLst true (aCons (eXob K "many" (eErr a.c_NothingLeft "many" (aCons (eVar 0) aNil))) (aCons (eXob K "row" (eErr a.c_InvalidCommand "row" (aCons (eVar 0) aNil))) (aCons (eXob K "number" (eErr a.c_InvalidSizes "number" (aCons (eVar 0) aNil))) aNil))))) (gN 1))
    (sSeq (sAsg (eOp (oAdd true) (eVar 1) (eLst true (aCons (eXob K "state" (eErr a.c_InvalidState "state" (aCons (eVar 0) aNil))) (aCons (eXob K "thing" (eErr a.c_InvalidTable "thing" (aCons (eVar 0) aNil))) (aCons (eXob K "number" (eErr a.c_NotClosed "number" (aCons (eVar 0) aNil))) aNil))))) (gN 1))
    (sSeq (sAsg (eOp (oAdd true) (eVar 1) (eLst true (aCons (eXob K "row" (eErr a.c_Refusable "row" (aCons (eVar 0) aNil))) (aCons (eXob K "number" (eErr a.c_InvalidChoice "number" (aCons (eVar 0) aNil))) (aCons (eXob K "picks" (eErr a.c_UnknownSet "picks" (aCons (eVar 0) aNil))) aNil))))) (gN 1))
    (sSeq (sAsg (eOp (oAdd true) (eVar 1) (eLst true (aCons (eXob K "number" (eErr a.c_TooMany "number" (aCons (eVar 0) aNil))) (aCons (eXob K "name" (eErr2 a.c_Refused "name" "need" (aCons (eVar 0) (aCons (eC .non) aNil)))) (aCons (eXob K "number" (eErr2 a.c_NotDone "number" "error" (aCons (eVar 0) (aCons (eC .non) aNil)))) aNil))))) (gN 1))
    (sRet (eOp (oAdd false) (eVar 1) (eLst true (aCons (eXob K "need" (eErr2 a.c_Refused "name" "need" (aCons (eC .non) (aCons (eVar 0) aNil)))) aNil)))))))))))))
def B_law (K : PySem.W.Frag) (a : Ad) : SM :=
    (sSeq (sFor (iRange1 (aCons (eCB oMax (aCons (eC (.int 1)) (aCons (eCB oMin (aCons (eCB oLen (aCons (eVar 0) aNil)) (aCons (eC (.int 6)) aNil))) aNil))) aNil)) (gN 1) (sSeq (sAsg (eFrz (eCall 2 CHand (aCons (eVar 0) (aCons (eVar 1) aNil)))) (gN 2))
    (sFor (iRange1 (aCons (eC (.int 4)) aNil)) (gN 3) (sSeq (sAsg (eLst true (aCons (eC .non) (aCons (eC (.int 5)) (aCons (eC (.str "a")) (aCons (eC (.tup [.str "a", .int 1])) (aCons (eC (.lst [.str "a"])) (aCons (eDisp [((eC (.str "a")), (eC (.int 1)))]) (aCons (eC (.int (10 ^ 30))) (aCons (eC (.int 0)) (aCons (eC (.str "")) aNil)))))))))) (gN 4))
    (sSeq (sAsg (eOp oIx (eVar 4) (eFrz (eCall 2 CDraw (aCons (eVar 2) (aCons (eC (.int 9)) aNil))))) (gN 5))
    (sSeq (sIf (tOrM (tOf (eOp oNeS (eFrz (eCall 1 (C_law_fields a) (aCons (eVar 5) aNil))) (eOp (oMul true) (eLst true (aCons (eVar 5) aNil)) (eC (.int 28))))) (tOf (eOp oNeS (eFrz (eCall 1 (C_law_placed a) (aCons (eVar 5) aNil))) (eOp (oMul true) (eLst true (aCons (eVar 5) aNil)) (eC (.int 28)))))) (sRet (eC (.bl false))) sNext)
    (sFor (iEnum (aCons (eFrz (eCall 2 (C_law_objects a) (aCons (eVar 5) (aCons (eC .non) aNil)))) aNil)) (gTup 2 (gCons (gN 6) (gCons (gN 7) gNil))) (sSeq (sIf (tOf (eOp oNe (eFrz (eCall 1 (C_law_classes a) (aCons (eVar 7) aNil))) (eLc true (iRange1 (aCons (eC (.int 27)) aNil)) (cN 8 [8]) tYes (eOp oEq (eVar 6) (eVar 8))))) (sRet (eC (.bl false))) sNext)
    (sIf (tOrM (tNotM (tTru (eCB (oIsX K) (aCons (eVar 7) (aCons (eC (.ref a.c_GrowError)) aNil))))) (tNotM (tTru (eCB (oIsXT K) (aCons (eVar 7) (aCons (eC (.ty "ValueError")) aNil)))))) (sRet (eC (.bl false))) sNext)))))))))
    (sRet (eC (.bl true))))
end TL

set_option maxHeartbeats 4000000
namespace TL
open PySem L2
local macro_rules | `(tactic| dsimp! [$ls,*]) => `(tactic| (try simp only [$ls,*, lim, oOwn, oIsiC, view_bl, dep_bl, eqT_tt, eqT_ff, eqT_tf, eqT_ft, eDIn, eDGet, eDGet2, eDisp, mPairs, keyTs, eLstR2, oListD, eOwnCall, sPropT, dOf, sDPutT, sLk, eLk, iDict, oDict, eDNew, eDc, keyT, eMakeX, eCallK, eRev, oRepr, eMeth, eProp, eFld, eMake, sRaise, sPar3, ends, startT, eVar, eC, eOp, tOf, eChain, tAndM, tOrM, tNotM, eAndV, eOrV, eNotV, eIf, aNil, aCons, eTup, eLst, eFrz, frzK, oI, oIC, oSub, oMod, oDiv, oPow, oLt, oLe, oGt, oGe, oAddI', oAddL, oMulI', oAdd, oMul, eNeg, oIsN, oNotN, oIx, atK, mNo, mPart, eSl, eCB, oLen, oInt, oSumL, oMax2, oMin2, oMax1, oMin1, oList, oBls, eCall, eBM, eBM0, isLs, oApp, oPop, oExt, lsOf, tTru, sNext, sSeq, sDrop, sRet, sRetN, sIf, sBreak, sCont, sNever, gN, gNil, gCons, gTup, setT, gSub, sAsg, sPar, sAug, oIxL, sAugS, oAddI, sFor, eLc, iSeq, iRange1, iRange2, iRangeW, iEnum, tYes, oIsi, kdOf, oEq, oNe, eqT_int, eqT_nn, eqT_in, eqT_ni,   atI_0, atI_1, atI_2, atI_3, atI_4, atI_5, atI_6, atI_7, atI_8, atI_m1, ixN_0, ixN_1,   kdN_int, kdN_bool, kdN_str, kdN_list, kdN_tuple, isK, view_int, view_non, dep_int, dep_non, cN, cN2, wipeT,   mk_true, mk_false, put_same, put_put,   List.map_cons, List.map_nil, List.length_cons, List.length_nil, List.replicate, List.cons_append, List.nil_append, List.append_nil, List.set_cons_zero, List.set_cons_succ, List.getElem?_cons_zero, List.getElem?_cons_succ, List.getElem?_nil, Nat.reduceAdd, Nat.reduceSub, Nat.reduceLeDiff, Nat.reduceLT, Nat.reduceEqDiff, Option.isSome_some, Option.isSome_none, true_and, and_true, if_true, if_false, Bool.false_eq_true, Bool.not_true, Bool.not_false, reduceCtorEq, Nat.zero_add, Nat.zero_le, decide_eq_true_eq, Bool.not_eq_true', decide_eq_false_iff_not, ite_true, ite_false, Bool.if_false_right, Bool.if_true_left, decide_true, decide_false, Bool.true_or, Bool.or_true, Bool.false_or, Bool.or_false, Bool.true_and, Bool.and_true, Bool.false_and, Bool.and_false, List.length_map, not_true_eq_false, not_false_eq_true, false_and, and_false, bne_self_eq_false, Bool.not_eq_false]))

section
variable {K : PySem.W.Frag} {mg : Str → Option Value} {a : Ad}
theorem pl_law_draw : ∀ ts h Q E, ts.length = 2 → CxDraw ts h Q E → B_law_draw (ends Q E) (startT N_law_draw.length ts) h := by
  rintro ts h Q E - ⟨p, n, a, b, rfl, n0, n1, hp, ⟨a0, b0, b1⟩, q⟩
  unfold B_law_draw
  dsimp! [hp]
  split
  · refine ⟨n0, ⟨n0, n1⟩, dn_self (q _ _ _ (Int.emod_nonneg _ (by omega)) (Int.emod_lt_of_pos _ n0) ⟨Int.ediv_nonneg a0 (by omega), b0, b1⟩)⟩
  · have c0 := Int.emod_nonneg (b * 48271 + 11) (show (2147483647 : Int) ≠ 0 by decide)
    have c1 := Int.emod_lt_of_pos (b * 48271 + 11) (show (0 : Int) < 2147483647 by decide)
    generalize (b * 48271 + 11) % 2147483647 = c at *
    refine ⟨.inl (by omega), by decide, .inl (by omega), by decide, ⟨by decide, by decide⟩, n0, dn_self (q _ _ _ (Int.emod_nonneg _ (by omega)) (Int.emod_lt_of_pos _ n0) ⟨a0, c0, c1⟩)⟩
theorem cell_at (ns : List Int) (lo hi : Option Int) : ∃ c, atI (cutT (ns.map T.int) lo hi ++ [T.int 0]) 0 = some (.int c) ∧ (cutT (ns.map T.int) lo hi).length ≤ ns.length := by
  unfold cutT
  rw [← List.map_drop, ← List.map_take]
  generalize e : (List.drop _ ns).take _ = xs
  have hl : xs.length ≤ ns.length := by
    rw [← e, List.length_take, List.length_drop]; omega
  cases xs with
  | nil => exact ⟨0, atI_0, by simp⟩
  | cons x r => exact ⟨x, atI_0, by simpa using hl⟩
theorem pl_law_hand : ∀ ts h Q E, ts.length = 2 → CxHand ts h Q E → B_law_hand (ends Q E) (startT N_law_hand.length ts) h := by
  rintro ts h Q E - ⟨ns, k, rfl, k0, k1, hn, q⟩
  unfold B_law_hand
  obtain ⟨c, hc, hl⟩ := cell_at ns (some k) (some (k + 1))
  dsimp! [hc]
  have e18 : (10 : Int) ^ 18 = 1000000000000000000 := by decide
  have d0 := Int.emod_nonneg c (show (2147483647 : Int) ≠ 0 by decide)
  have d1 := Int.emod_lt_of_pos c (show (0 : Int) < 2147483647 by decide)
  generalize c % 2147483647 = d at *
  have s0 := Int.emod_nonneg ((d + 7919 * k + 1) * 48271) (show (2147483629 : Int) ≠ 0 by decide)
  have s1 := Int.emod_lt_of_pos ((d + 7919 * k + 1) * 48271) (show (0 : Int) < 2147483629 by decide)
  refine ⟨by omega, by decide, .inl (by decide), .inl (by omega), by decide, .inl (by split <;> decide), fun p hp => dn_self (q _ _ ⟨?_, s0, by omega⟩ p hp)⟩
  rw [e18]
  split <;> omega
section
variable {K : PySem.W.Frag} {mg : Str → Option Value} {a : Ad}
end
section
variable {K : PySem.W.Frag} {mg : Str → Option Value} {a : Ad}
theorem ev_err {C : Addr} {f : Str} {m : AM} {t : T} {s : Sl} {h : Hq} {E : EX} (hm : Ea s h E m [t]) : Ev s h E (eErr C f m) (.xob C [(f, t)]) := fun Q q => hm _ q
theorem ev_err2 {C : Addr} {f g : Str} {m : AM} {t u : T} {s : Sl} {h : Hq} {E : EX} (hm : Ea s h E m [t, u]) : Ev s h E (eErr2 C f g m) (.xob C [(g, u), (f, t)]) := fun Q q => hm _ q
theorem ev_err2K {C : Addr} {f g : Str} {m : AM} {t u : T} {s : Sl} {h : Hq} {E : EX} (hm : Ea s h E m [u, t]) : Ev s h E (eErr2K C f g m) (.xob C [(g, u), (f, t)]) := fun Q q => hm _ q
theorem ev_xob {C : Addr} {f : Str} {m : EM} {gs : List (Str × T)} {t : T} {s : Sl} {h : Hq} {E : EX} (hm : Ev s h E m (.xob C gs)) (hX : XfC K C) (hn : PySem.W.findIn K (.ref C) f = some none) (hl : gs.lookup f = some t) : Ev s h E (eXob K f m) t := fun Q q => hm _ ⟨hX, hn, by rw [hl]; exact q⟩
theorem lk1 (f : Str) (t : T) : ([(f, t)] : List (Str × T)).lookup f = some t := by simp [List.lookup]
theorem ev_isXT {s : Sl} {h : Hq} {E : EX} {m : EM} {D : Addr} {n : String} {gs : List (Str × T)} {b : Bool} (hx : Ev s h E m (.xob D gs)) (C : ExcC K D) (e : PySem.W.kitOne K (.ref D) (.type n) = some b) : Ev s h E (eCB (oIsXT K) (aCons m (aCons (eC (.ty n)) aNil))) (.bl b) := fun Q q => hx _ ⟨b, C, e, q⟩
theorem ev_catL {x y : EM} {xs ys : List T} {s : Sl} {h : Hq} {E : EX} (hx : Ev s h E x (.lst xs)) (hy : Ev s h E y (.lst ys)) (l : xs.length + ys.length ≤ lim) {Q : TK} (q : ∀ p, h p = none → Q (.ref p) (put h p (.lst (xs ++ ys)))) : eOp (oAdd false) x y s h Q E := op_go (hx _ (hy _ ⟨l, by rw [mk_false]; exact q⟩))
theorem add_ref {i : Nat} {y : EM} {p : Addr} {xs ys : List T} {s : Sl} {h : Hq} {E : EX} {Q : TK} (hi : s[i]? = some (some (.ref p))) (hp : h p = some (.lst xs)) (hy : Ev s h E y (.lst ys)) (l : xs.length + ys.length ≤ lim) (q : ∀ p, h p = none → Q (.ref p) (put h p (.lst (xs ++ ys)))) : eOp (oAdd false) (eVar i) y s h Q E := op_go (ev_var hi _ (hy _ (by
  dsimp only [oAdd, lsOf]
  rw [hp]
  exact ⟨l, by rw [mk_false]; exact q⟩)))
theorem pl_law_objects (Z : Tx K mg a) : ∀ ts h Q E, ts.length = 2 → C_law_objects a ts h Q E → B_law_objects K a (ends Q E) (startT N_law_objects.length ts) h := by
  rintro ts h Q E - ⟨t, u, rfl, q⟩
  unfold B_law_objects
  refine set_ev (ev_lstT (ea_cons (ev_err (ea_cons (ev_var rfl) ea_nil)) (ea_cons (ev_err (ea_cons (ev_var rfl) ea_nil)) (ea_cons (ev_err (ea_cons (ev_var rfl) ea_nil)) (ea_cons (ev_err (ea_cons (ev_var rfl) ea_nil)) ea_nil)))) (Nat.le_of_ble_eq_true rfl)) ?_
  refine set_ev (ev_cat (ev_var rfl) (ev_lstT (ea_cons (ev_err (ea_cons (ev_var rfl) ea_nil)) (ea_cons (ev_err (ea_cons (ev_var rfl) ea_nil)) (ea_cons (ev_err (ea_cons (ev_var rfl) ea_nil)) (ea_cons (ev_err (ea_cons (ev_var rfl) ea_nil)) ea_nil)))) (Nat.le_of_ble_eq_true rfl)) (Nat.le_of_ble_eq_true rfl)) ?_
  refine set_ev (ev_cat (ev_var rfl) (ev_lstT (ea_cons (ev_err (ea_cons (ev_var rfl) ea_nil)) (ea_cons (ev_err (ea_cons (ev_var rfl) ea_nil)) (ea_cons (ev_err (ea_cons (ev_var rfl) ea_nil)) (ea_cons (ev_err (ea_cons (ev_var rfl) ea_nil)) ea_nil)))) (Nat.le_of_ble_eq_true rfl)) (Nat.le_of_ble_eq_true rfl)) ?_
  refine set_ev (ev_cat (ev_var rfl) (ev_lstT (ea_cons (ev_err (ea_cons (ev_var rfl) ea_nil)) (ea_cons (ev_err (ea_cons (ev_var rfl) ea_nil)) (ea_cons (ev_err (ea_cons (ev_var rfl) ea_nil)) (ea_cons (ev_err (ea_cons (ev_var rfl) ea_nil)) ea_nil)))) (Nat.le_of_ble_eq_true rfl)) (Nat.le_of_ble_eq_true rfl)) ?_
  refine set_ev (ev_cat (ev_var rfl) (ev_lstT (ea_cons (ev_err (ea_cons (ev_var rfl) ea_nil)) (ea_cons (ev_err (ea_cons (ev_var rfl) ea_nil)) (ea_cons (ev_err (ea_cons (ev_var rfl) ea_nil)) (ea_cons (ev_err (ea_cons (ev_var rfl) ea_nil)) ea_nil)))) (Nat.le_of_ble_eq_true rfl)) (Nat.le_of_ble_eq_true rfl)) ?_
  refine set_ev (ev_cat (ev_var rfl) (ev_lstT (ea_cons (ev_err (ea_cons (ev_var rfl) ea_nil)) (ea_cons (ev_err (ea_cons (ev_var rfl) ea_nil)) (ea_cons (ev_err (ea_cons (ev_var rfl) ea_nil)) (ea_cons (ev_err (ea_cons (ev_var rfl) ea_nil)) ea_nil)))) (Nat.le_of_ble_eq_true rfl)) (Nat.le_of_ble_eq_true rfl)) ?_
  exact ret_go (ev_catL (ev_var rfl) (ev_lstT (ea_cons (ev_err (ea_cons (ev_var rfl) ea_nil)) (ea_cons (ev_err2 (ea_cons (ev_var rfl) (ea_cons (ev_var rfl) ea_nil))) (ea_cons (ev_err2 (ea_cons (ev_var rfl) (ea_cons (ev_var rfl) ea_nil))) ea_nil))) (Nat.le_of_ble_eq_true rfl)) (Nat.le_of_ble_eq_true rfl) fun p np => dn_self (q p np))
theorem kt_InvalidRuns (Z : Tx K mg a) : ∀ i, i < 27 → PySem.W.kitOne K (.ref (clA a i)) (.ref a.c_InvalidRuns) = some (decide (i = 0))
  | 0, _ => Z.k_InvalidRuns_InvalidRuns
  | 1, _ => Z.k_InvalidBlock_InvalidRuns
  | 2, _ => Z.k_InvalidText_InvalidRuns
  | 3, _ => Z.k_InvalidBook_InvalidRuns
  | 4, _ => Z.k_InvalidNumber_InvalidRuns
  | 5, _ => Z.k_InvalidRule_InvalidRuns
  | 6, _ => Z.k_InvalidDisk_InvalidRuns
  | 7, _ => Z.k_InvalidName_InvalidRuns
  | 8, _ => Z.k_KnownName_InvalidRuns
  | 9, _ => Z.k_UnknownName_InvalidRuns
  | 10, _ => Z.k_Closed_InvalidRuns
  | 11, _ => Z.k_Opened_InvalidRuns
  | 12, _ => Z.k_InvalidEvent_InvalidRuns
  | 13, _ => Z.k_InvalidRow_InvalidRuns
  | 14, _ => Z.k_InvalidLine_InvalidRuns
  | 15, _ => Z.k_NothingLeft_InvalidRuns
  | 16, _ => Z.k_InvalidCommand_InvalidRuns
  | 17, _ => Z.k_InvalidSizes_InvalidRuns
  | 18, _ => Z.k_InvalidState_InvalidRuns
  | 19, _ => Z.k_InvalidTable_InvalidRuns
  | 20, _ => Z.k_NotClosed_InvalidRuns
  | 21, _ => Z.k_Refusable_InvalidRuns
  | 22, _ => Z.k_InvalidChoice_InvalidRuns
  | 23, _ => Z.k_UnknownSet_InvalidRuns
  | 24, _ => Z.k_TooMany_InvalidRuns
  | 25, _ => Z.k_Refused_InvalidRuns
  | 26, _ => Z.k_NotDone_InvalidRuns
  | n + 27, h => by omega
theorem kt_InvalidBlock (Z : Tx K mg a) : ∀ i, i < 27 → PySem.W.kitOne K (.ref (clA a i)) (.ref a.c_InvalidBlock) = some (decide (i = 1))
  | 0, _ => Z.k_InvalidRuns_InvalidBlock
  | 1, _ => Z.k_InvalidBlock_InvalidBlock
  | 2, _ => Z.k_InvalidText_InvalidBlock
  | 3, _ => Z.k_InvalidBook_InvalidBlock
  | 4, _ => Z.k_InvalidNumber_InvalidBlock
  | 5, _ => Z.k_InvalidRule_InvalidBlock
  | 6, _ => Z.k_InvalidDisk_InvalidBlock
  | 7, _ => Z.k_InvalidName_InvalidBlock
  | 8, _ => Z.k_KnownName_InvalidBlock
  | 9, _ => Z.k_UnknownName_InvalidBlock
  | 10, _ => Z.k_Closed_InvalidBlock
  | 11, _ => Z.k_Opened_InvalidBlock
  | 12, _ => Z.k_InvalidEvent_InvalidBlock
  | 13, _ => Z.k_InvalidRow_InvalidBlock
  | 14, _ => Z.k_InvalidLine_InvalidBlock
  | 15, _ => Z.k_NothingLeft_InvalidBlock
  | 16, _ => Z.k_InvalidCommand_InvalidBlock
  | 17, _ => Z.k_InvalidSizes_InvalidBlock
  | 18, _ => Z.k_InvalidState_InvalidBlock
  | 19, _ => Z.k_InvalidTable_InvalidBlock
  | 20, _ => Z.k_NotClosed_InvalidBlock
  | 21, _ => Z.k_Refusable_InvalidBlock
  | 22, _ => Z.k_InvalidChoice_InvalidBlock
  | 23, _ => Z.k_UnknownSet_InvalidBlock
  | 24, _ => Z.k_TooMany_InvalidBlock
  | 25, _ => Z.k_Refused_InvalidBlock
  | 26, _ => Z.k_NotDone_InvalidBlock
  | n + 27, h => by omega
theorem kt_InvalidText (Z : Tx K mg a) : ∀ i, i < 27 → PySem.W.kitOne K (.ref (clA a i)) (.ref a.c_InvalidText) = some (decide (i = 2))
  | 0, _ => Z.k_InvalidRuns_InvalidText
  | 1, _ => Z.k_InvalidBlock_InvalidText
  | 2, _ => Z.k_InvalidText_InvalidText
  | 3, _ => Z.k_InvalidBook_InvalidText
  | 4, _ => Z.k_InvalidNumber_InvalidText
  | 5, _ => Z.k_InvalidRule_InvalidText
  | 6, _ => Z.k_InvalidDisk_InvalidText
  | 7, _ => Z.k_InvalidName_InvalidText
  | 8, _ => Z.k_KnownName_InvalidText
  | 9, _ => Z.k_UnknownName_InvalidText
  | 10, _ => Z.k_Closed_InvalidText
  | 11, _ => Z.k_Opened_InvalidText
  | 12, _ => Z.k_InvalidEvent_InvalidText
  | 13, _ => Z.k_InvalidRow_InvalidText
  | 14, _ => Z.k_InvalidLine_InvalidText
  | 15, _ => Z.k_NothingLeft_InvalidText
  | 16, _ => Z.k_InvalidCommand_InvalidText
  | 17, _ => Z.k_InvalidSizes_InvalidText
  | 18, _ => Z.k_InvalidState_InvalidText
  | 19, _ => Z.k_InvalidTable_InvalidText
  | 20, _ => Z.k_NotClosed_InvalidText
  | 21, _ => Z.k_Refusable_InvalidText
  | 22, _ => Z.k_InvalidChoice_InvalidText
  | 23, _ => Z.k_UnknownSet_InvalidText
  | 24, _ => Z.k_TooMany_InvalidText
  | 25, _ => Z.k_Refused_InvalidText
  | 26, _ => Z.k_NotDone_InvalidText
  | n + 27, h => by omega
theorem kt_InvalidBook (Z : Tx K mg a) : ∀ i, i < 27 → PySem.W.kitOne K (.ref (clA a i)) (.ref a.c_InvalidBook) = some (decide (i = 3))
  | 0, _ => Z.k_InvalidRuns_InvalidBook
  | 1, _ => Z.k_InvalidBlock_InvalidBook
  | 2, _ => Z.k_InvalidText_InvalidBook
  | 3, _ => Z.k_InvalidBook_InvalidBook
  | 4, _ => Z.k_InvalidNumber_InvalidBook
  | 5, _ => Z.k_InvalidRule_InvalidBook
  | 6, _ => Z.k_InvalidDisk_InvalidBook
  | 7, _ => Z.k_InvalidName_InvalidBook
  | 8, _ => Z.k_KnownName_InvalidBook
  | 9, _ => Z.k_UnknownName_InvalidBook
  | 10, _ => Z.k_Closed_InvalidBook
  | 11, _ => Z.k_Opened_InvalidBook
  | 12, _ => Z.k_InvalidEvent_InvalidBook
  | 13, _ => Z.k_InvalidRow_InvalidBook
  | 14, _ => Z.k_InvalidLine_InvalidBook
  | 15, _ => Z.k_NothingLeft_InvalidBook
  | 16, _ => Z.k_InvalidCommand_InvalidBook
  | 17, _ => Z.k_InvalidSizes_InvalidBook
  | 18, _ => Z.k_InvalidState_InvalidBook
  | 19, _ => Z.k_InvalidTable_InvalidBook
  | 20, _ => Z.k_NotClosed_InvalidBook
  | 21, _ => Z.k_Refusable_InvalidBook
  | 22, _ => Z.k_InvalidChoice_InvalidBook
  | 23, _ => Z.k_UnknownSet_InvalidBook
  | 24, _ => Z.k_TooMany_InvalidBook
  | 25, _ => Z.k_Refused_InvalidBook
  | 26, _ => Z.k_NotDone_InvalidBook
  | n + 27, h => by omega
theorem kt_InvalidNumber (Z : Tx K mg a) : ∀ i, i < 27 → PySem.W.kitOne K (.ref (clA a i)) (.ref a.c_InvalidNumber) = some (decide (i = 4))
  | 0, _ => Z.k_InvalidRuns_InvalidNumber
  | 1, _ => Z.k_InvalidBlock_InvalidNumber
  | 2, _ => Z.k_InvalidText_InvalidNumber
  | 3, _ => Z.k_InvalidBook_InvalidNumber
  | 4, _ => Z.k_InvalidNumber_InvalidNumber
  | 5, _ => Z.k_InvalidRule_InvalidNumber
  | 6, _ => Z.k_InvalidDisk_InvalidNumber
  | 7, _ => Z.k_InvalidName_InvalidNumber
  | 8, _ => Z.k_KnownName_InvalidNumber
  | 9, _ => Z.k_UnknownName_InvalidNumber
  | 10, _ => Z.k_Closed_InvalidNumber
  | 11, _ => Z.k_Opened_InvalidNumber
  | 12, _ => Z.k_InvalidEvent_InvalidNumber
  | 13, _ => Z.k_InvalidRow_InvalidNumber
  | 14, _ => Z.k_InvalidLine_InvalidNumber
  | 15, _ => Z.k_NothingLeft_InvalidNumber
  | 16, _ => Z.k_InvalidCommand_InvalidNumber
  | 17, _ => Z.k_InvalidSizes_InvalidNumber
  | 18, _ => Z.k_InvalidState_InvalidNumber
  | 19, _ => Z.k_InvalidTable_InvalidNumber
  | 20, _ => Z.k_NotClosed_InvalidNumber
  | 21, _ => Z.k_Refusable_InvalidNumber
  | 22, _ => Z.k_InvalidChoice_InvalidNumber
  | 23, _ => Z.k_UnknownSet_InvalidNumber
  | 24, _ => Z.k_TooMany_InvalidNumber
  | 25, _ => Z.k_Refused_InvalidNumber
  | 26, _ => Z.k_NotDone_InvalidNumber
  | n + 27, h => by omega
theorem kt_InvalidRule (Z : Tx K mg a) : ∀ i, i < 27 → PySem.W.kitOne K (.ref (clA a i)) (.ref a.c_InvalidRule) = some (decide (i = 5))
  | 0, _ => Z.k_InvalidRuns_InvalidRule
  | 1, _ => Z.k_InvalidBlock_InvalidRule
  | 2, _ => Z.k_InvalidText_InvalidRule
  | 3, _ => Z.k_InvalidBook_InvalidRule
  | 4, _ => Z.k_InvalidNumber_InvalidRule
  | 5, _ => Z.k_InvalidRule_InvalidRule
  | 6, _ => Z.k_InvalidDisk_InvalidRule
  | 7, _ => Z.k_InvalidName_InvalidRule
  | 8, _ => Z.k_KnownName_InvalidRule
  | 9, _ => Z.k_UnknownName_InvalidRule
  | 10, _ => Z.k_Closed_InvalidRule
  | 11, _ => Z.k_Opened_InvalidRule
  | 12, _ => Z.k_InvalidEvent_InvalidRule
  | 13, _ => Z.k_InvalidRow_InvalidRule
  | 14, _ => Z.k_InvalidLine_InvalidRule
  | 15, _ => Z.k_NothingLeft_InvalidRule
  | 16, _ => Z.k_InvalidCommand_InvalidRule
  | 17, _ => Z.k_InvalidSizes_InvalidRule
  | 18, _ => Z.k_InvalidState_InvalidRule
  | 19, _ => Z.k_InvalidTable_InvalidRule
  | 20, _ => Z.k_NotClosed_InvalidRule
  | 21, _ => Z.k_Refusable_InvalidRule
  | 22, _ => Z.k_InvalidChoice_InvalidRule
  | 23, _ => Z.k_UnknownSet_InvalidRule
  | 24, _ => Z.k_TooMany_InvalidRule
  | 25, _ => Z.k_Refused_InvalidRule
  | 26, _ => Z.k_NotDone_InvalidRule
  | n + 27, h => by omega
theorem kt_InvalidDisk (Z : Tx K mg a) : ∀ i, i < 27 → PySem.W.kitOne K (.ref (clA a i)) (.ref a.c_InvalidDisk) = some (decide (i = 6))
  | 0, _ => Z.k_InvalidRuns_InvalidDisk
  | 1, _ => Z.k_InvalidBlock_InvalidDisk
  | 2, _ => Z.k_InvalidText_InvalidDisk
  | 3, _ => Z.k_InvalidBook_InvalidDisk
  | 4, _ => Z.k_InvalidNumber_InvalidDisk
  | 5, _ => Z.k_InvalidRule_InvalidDisk
  | 6, _ => Z.k_InvalidDisk_InvalidDisk
  | 7, _ => Z.k_InvalidName_InvalidDisk
  | 8, _ => Z.k_KnownName_InvalidDisk
  | 9, _ => Z.k_UnknownName_InvalidDisk
  | 10, _ => Z.k_Closed_InvalidDisk
  | 11, _ => Z.k_Opened_InvalidDisk
  | 12, _ => Z.k_InvalidEvent_InvalidDisk
  | 13, _ => Z.k_InvalidRow_InvalidDisk
  | 14, _ => Z.k_InvalidLine_InvalidDisk
  | 15, _ => Z.k_NothingLeft_InvalidDisk
  | 16, _ => Z.k_InvalidCommand_InvalidDisk
  | 17, _ => Z.k_InvalidSizes_InvalidDisk
  | 18, _ => Z.k_InvalidState_InvalidDisk
  | 19, _ => Z.k_InvalidTable_InvalidDisk
  | 20, _ => Z.k_NotClosed_InvalidDisk
  | 21, _ => Z.k_Refusable_InvalidDisk
  | 22, _ => Z.k_InvalidChoice_InvalidDisk
  | 23, _ => Z.k_UnknownSet_InvalidDisk
  | 24, _ => Z.k_TooMany_InvalidDisk
  | 25, _ => Z.k_Refused_InvalidDisk
  | 26, _ => Z.k_NotDone_InvalidDisk
  | n + 27, h => by omega
theorem kt_InvalidName (Z : Tx K mg a) : ∀ i, i < 27 → PySem.W.kitOne K (.ref (clA a i)) (.ref a.c_InvalidName) = some (decide (i = 7))
  | 0, _ => Z.k_InvalidRuns_InvalidName
  | 1, _ => Z.k_InvalidBlock_InvalidName
  | 2, _ => Z.k_InvalidText_InvalidName
  | 3, _ => Z.k_InvalidBook_InvalidName
  | 4, _ => Z.k_InvalidNumber_InvalidName
  | 5, _ => Z.k_InvalidRule_InvalidName
  | 6, _ => Z.k_InvalidDisk_InvalidName
  | 7, _ => Z.k_InvalidName_InvalidName
  | 8, _ => Z.k_KnownName_InvalidName
  | 9, _ => Z.k_UnknownName_InvalidName
  | 10, _ => Z.k_Closed_InvalidName
  | 11, _ => Z.k_Opened_InvalidName
  | 12, _ => Z.k_InvalidEvent_InvalidName
  | 13, _ => Z.k_InvalidRow_InvalidName
  | 14, _ => Z.k_InvalidLine_InvalidName
  | 15, _ => Z.k_NothingLeft_InvalidName
  | 16, _ => Z.k_InvalidCommand_InvalidName
  | 17, _ => Z.k_InvalidSizes_InvalidName
  | 18, _ => Z.k_InvalidState_InvalidName
  | 19, _ => Z.k_InvalidTable_InvalidName
  | 20, _ => Z.k_NotClosed_InvalidName
  | 21, _ => Z.k_Refusable_InvalidName
  | 22, _ => Z.k_InvalidChoice_InvalidName
  | 23, _ => Z.k_UnknownSet_InvalidName
  | 24, _ => Z.k_TooMany_InvalidName
  | 25, _ => Z.k_Refused_InvalidName
  | 26, _ => Z.k_NotDone_InvalidName
  | n + 27, h => by omega
theorem kt_KnownName (Z : Tx K mg a) : ∀ i, i < 27 → PySem.W.kitOne K (.ref (clA a i)) (.ref a.c_KnownName) = some (decide (i = 8))
  | 0, _ => Z.k_InvalidRuns_KnownName
  | 1, _ => Z.k_InvalidBlock_KnownName
  | 2, _ => Z.k_InvalidText_KnownName
  | 3, _ => Z.k_InvalidBook_KnownName
  | 4, _ => Z.k_InvalidNumber_KnownName
  | 5, _ => Z.k_InvalidRule_KnownName
  | 6, _ => Z.k_InvalidDisk_KnownName
  | 7, _ => Z.k_InvalidName_KnownName
  | 8, _ => Z.k_KnownName_KnownName
  | 9, _ => Z.k_UnknownName_KnownName
  | 10, _ => Z.k_Closed_KnownName
  | 11, _ => Z.k_Opened_KnownName
  | 12, _ => Z.k_InvalidEvent_KnownName
  | 13, _ => Z.k_InvalidRow_KnownName
  | 14, _ => Z.k_InvalidLine_KnownName
  | 15, _ => Z.k_NothingLeft_KnownName
  | 16, _ => Z.k_InvalidCommand_KnownName
  | 17, _ => Z.k_InvalidSizes_KnownName
  | 18, _ => Z.k_InvalidState_KnownName
  | 19, _ => Z.k_InvalidTable_KnownName
  | 20, _ => Z.k_NotClosed_KnownName
  | 21, _ => Z.k_Refusable_KnownName
  | 22, _ => Z.k_InvalidChoice_KnownName
  | 23, _ => Z.k_UnknownSet_KnownName
  | 24, _ => Z.k_TooMany_KnownName
  | 25, _ => Z.k_Refused_KnownName
  | 26, _ => Z.k_NotDone_KnownName
  | n + 27, h => by omega
theorem kt_UnknownName (Z : Tx K mg a) : ∀ i, i < 27 → PySem.W.kitOne K (.ref (clA a i)) (.ref a.c_UnknownName) = some (decide (i = 9))
  | 0, _ => Z.k_InvalidRuns_UnknownName
  | 1, _ => Z.k_InvalidBlock_UnknownName
  | 2, _ => Z.k_InvalidText_UnknownName
  | 3, _ => Z.k_InvalidBook_UnknownName
  | 4, _ => Z.k_InvalidNumber_UnknownName
  | 5, _ => Z.k_InvalidRule_UnknownName
  | 6, _ => Z.k_InvalidDisk_UnknownName
  | 7, _ => Z.k_InvalidName_UnknownName
  | 8, _ => Z.k_KnownName_UnknownName
  | 9, _ => Z.k_UnknownName_UnknownName
  | 10, _ => Z.k_Closed_UnknownName
  | 11, _ => Z.k_Opened_UnknownName
  | 12, _ => Z.k_InvalidEvent_UnknownName
  | 13, _ => Z.k_InvalidRow_UnknownName
  | 14, _ => Z.k_InvalidLine_UnknownName
  | 15, _ => Z.k_NothingLeft_UnknownName
  | 16, _ => Z.k_InvalidCommand_UnknownName
  | 17, _ => Z.k_InvalidSizes_UnknownName
  | 18, _ => Z.k_InvalidState_UnknownName
  | 19, _ => Z.k_InvalidTable_UnknownName
  | 20, _ => Z.k_NotClosed_UnknownName
  | 21, _ => Z.k_Refusable_UnknownName
  | 22, _ => Z.k_InvalidChoice_UnknownName
  | 23, _ => Z.k_UnknownSet_UnknownName
  | 24, _ => Z.k_TooMany_UnknownName
  | 25, _ => Z.k_Refused_UnknownName
  | 26, _ => Z.k_NotDone_UnknownName
  | n + 27, h => by omega
theorem kt_Closed (Z : Tx K mg a) : ∀ i, i < 27 → PySem.W.kitOne K (.ref (clA a i)) (.ref a.c_Closed) = some (decide (i = 10))
  | 0, _ => Z.k_InvalidRuns_Closed
  | 1, _ => Z.k_InvalidBlock_Closed
  | 2, _ => Z.k_InvalidText_Closed
  | 3, _ => Z.k_InvalidBook_Closed
  | 4, _ => Z.k_InvalidNumber_Closed
  | 5, _ => Z.k_InvalidRule_Closed
  | 6, _ => Z.k_InvalidDisk_Closed
  | 7, _ => Z.k_InvalidName_Closed
  | 8, _ => Z.k_KnownName_Closed
  | 9, _ => Z.k_UnknownName_Closed
  | 10, _ => Z.k_Closed_Closed
  | 11, _ => Z.k_Opened_Closed
  | 12, _ => Z.k_InvalidEvent_Closed
  | 13, _ => Z.k_InvalidRow_Closed
  | 14, _ => Z.k_InvalidLine_Closed
  | 15, _ => Z.k_NothingLeft_Closed
  | 16, _ => Z.k_InvalidCommand_Closed
  | 17, _ => Z.k_InvalidSizes_Closed
  | 18, _ => Z.k_InvalidState_Closed
  | 19, _ => Z.k_InvalidTable_Closed
  | 20, _ => Z.k_NotClosed_Closed
  | 21, _ => Z.k_Refusable_Closed
  | 22, _ => Z.k_InvalidChoice_Closed
  | 23, _ => Z.k_UnknownSet_Closed
  | 24, _ => Z.k_TooMany_Closed
  | 25, _ => Z.k_Refused_Closed
  | 26, _ => Z.k_NotDone_Closed
  | n + 27, h => by omega
theorem kt_Opened (Z : Tx K mg a) : ∀ i, i < 27 → PySem.W.kitOne K (.ref (clA a i)) (.ref a.c_Opened) = some (decide (i = 11))
  | 0, _ => Z.k_InvalidRuns_Opened
  | 1, _ => Z.k_InvalidBlock_Opened
  | 2, _ => Z.k_InvalidText_Opened
  | 3, _ => Z.k_InvalidBook_Opened
  | 4, _ => Z.k_InvalidNumber_Opened
  | 5, _ => Z.k_InvalidRule_Opened
  | 6, _ => Z.k_InvalidDisk_Opened
  | 7, _ => Z.k_InvalidName_Opened
  | 8, _ => Z.k_KnownName_Opened
  | 9, _ => Z.k_UnknownName_Opened
  | 10, _ => Z.k_Closed_Opened
  | 11, _ => Z.k_Opened_Opened
  | 12, _ => Z.k_InvalidEvent_Opened
  | 13, _ => Z.k_InvalidRow_Opened
  | 14, _ => Z.k_InvalidLine_Opened
  | 15, _ => Z.k_NothingLeft_Opened
  | 16, _ => Z.k_InvalidCommand_Opened
  | 17, _ => Z.k_InvalidSizes_Opened
  | 18, _ => Z.k_InvalidState_Opened
  | 19, _ => Z.k_InvalidTable_Opened
  | 20, _ => Z.k_NotClosed_Opened
  | 21, _ => Z.k_Refusable_Opened
  | 22, _ => Z.k_InvalidChoice_Opened
  | 23, _ => Z.k_UnknownSet_Opened
  | 24, _ => Z.k_TooMany_Opened
  | 25, _ => Z.k_Refused_Opened
  | 26, _ => Z.k_NotDone_Opened
  | n + 27, h => by omega
theorem kt_InvalidEvent (Z : Tx K mg a) : ∀ i, i < 27 → PySem.W.kitOne K (.ref (clA a i)) (.ref a.c_InvalidEvent) = some (decide (i = 12))
  | 0, _ => Z.k_InvalidRuns_InvalidEvent
  | 1, _ => Z.k_InvalidBlock_InvalidEvent
  | 2, _ => Z.k_InvalidText_InvalidEvent
  | 3, _ => Z.k_InvalidBook_InvalidEvent
  | 4, _ => Z.k_InvalidNumber_InvalidEvent
  | 5, _ => Z.k_InvalidRule_InvalidEvent
  | 6, _ => Z.k_InvalidDisk_InvalidEvent
  | 7, _ => Z.k_InvalidName_InvalidEvent
  | 8, _ => Z.k_KnownName_InvalidEvent
  | 9, _ => Z.k_UnknownName_InvalidEvent
  | 10, _ => Z.k_Closed_InvalidEvent
  | 11, _ => Z.k_Opened_InvalidEvent
  | 12, _ => Z.k_InvalidEvent_InvalidEvent
  | 13, _ => Z.k_InvalidRow_InvalidEvent
  | 14, _ => Z.k_InvalidLine_InvalidEvent
  | 15, _ => Z.k_NothingLeft_InvalidEvent
  | 16, _ => Z.k_InvalidCommand_InvalidEvent
  | 17, _ => Z.k_InvalidSizes_InvalidEvent
  | 18, _ => Z.k_InvalidState_InvalidEvent
  | 19, _ => Z.k_InvalidTable_InvalidEvent
  | 20, _ => Z.k_NotClosed_InvalidEvent
  | 21, _ => Z.k_Refusable_InvalidEvent
  | 22, _ => Z.k_InvalidChoice_InvalidEvent
  | 23, _ => Z.k_UnknownSet_InvalidEvent
  | 24, _ => Z.k_TooMany_InvalidEvent
  | 25, _ => Z.k_Refused_InvalidEvent
  | 26, _ => Z.k_NotDone_InvalidEvent
  | n + 27, h => by omega
theorem kt_InvalidRow (Z : Tx K mg a) : ∀ i, i < 27 → PySem.W.kitOne K (.ref (clA a i)) (.ref a.c_InvalidRow) = some (decide (i = 13))
  | 0, _ => Z.k_InvalidRuns_InvalidRow
  | 1, _ => Z.k_InvalidBlock_InvalidRow
  | 2, _ => Z.k_InvalidText_InvalidRow
  | 3, _ => Z.k_InvalidBook_InvalidRow
  | 4, _ => Z.k_InvalidNumber_InvalidRow
  | 5, _ => Z.k_InvalidRule_InvalidRow
  | 6, _ => Z.k_InvalidDisk_InvalidRow
  | 7, _ => Z.k_InvalidName_InvalidRow
  | 8, _ => Z.k_KnownName_InvalidRow
  | 9, _ => Z.k_UnknownName_InvalidRow
  | 10, _ => Z.k_Closed_InvalidRow
  | 11, _ => Z.k_Opened_InvalidRow
  | 12, _ => Z.k_InvalidEvent_InvalidRow
  | 13, _ => Z.k_InvalidRow_InvalidRow
  | 14, _ => Z.k_InvalidLine_InvalidRow
  | 15, _ => Z.k_NothingLeft_InvalidRow
  | 16, _ => Z.k_InvalidCommand_InvalidRow
  | 17, _ => Z.k_InvalidSizes_InvalidRow
  | 18, _ => Z.k_InvalidState_InvalidRow
  | 19, _ => Z.k_InvalidTable_InvalidRow
  | 20, _ => Z.k_NotClosed_InvalidRow
  | 21, _ => Z.k_Refusable_InvalidRow
  | 22, _ => Z.k_InvalidChoice_InvalidRow
  | 23, _ => Z.k_UnknownSet_InvalidRow
  | 24, _ => Z.k_TooMany_InvalidRow
  | 25, _ => Z.k_Refused_InvalidRow
  | 26, _ => Z.k_NotDone_InvalidRow
  | n + 27, h => by omega
theorem kt_InvalidLine (Z : Tx K mg a) : ∀ i, i < 27 → PySem.W.kitOne K (.ref (clA a i)) (.ref a.c_InvalidLine) = some (decide (i = 14))
  | 0, _ => Z.k_InvalidRuns_InvalidLine
  | 1, _ => Z.k_InvalidBlock_InvalidLine
  | 2, _ => Z.k_InvalidText_InvalidLine
  | 3, _ => Z.k_InvalidBook_InvalidLine
  | 4, _ => Z.k_InvalidNumber_InvalidLine
  | 5, _ => Z.k_InvalidRule_InvalidLine
  | 6, _ => Z.k_InvalidDisk_InvalidLine
  | 7, _ => Z.k_InvalidName_InvalidLine
  | 8, _ => Z.k_KnownName_InvalidLine
  | 9, _ => Z.k_UnknownName_InvalidLine
  | 10, _ => Z.k_Closed_InvalidLine
  | 11, _ => Z.k_Opened_InvalidLine
  | 12, _ => Z.k_InvalidEvent_InvalidLine
  | 13, _ => Z.k_InvalidRow_InvalidLine
  | 14, _ => Z.k_InvalidLine_InvalidLine
  | 15, _ => Z.k_NothingLeft_InvalidLine
  | 16, _ => Z.k_InvalidCommand_InvalidLine
  | 17, _ => Z.k_InvalidSizes_InvalidLine
  | 18, _ => Z.k_InvalidState_InvalidLine
  | 19, _ => Z.k_InvalidTable_InvalidLine
  | 20, _ => Z.k_NotClosed_InvalidLine
  | 21, _ => Z.k_Refusable_InvalidLine
  | 22, _ => Z.k_InvalidChoice_InvalidLine
  | 23, _ => Z.k_UnknownSet_InvalidLine
  | 24, _ => Z.k_TooMany_InvalidLine
  | 25, _ => Z.k_Refused_InvalidLine
  | 26, _ => Z.k_NotDone_InvalidLine
  | n + 27, h => by omega
theorem kt_NothingLeft (Z : Tx K mg a) : ∀ i, i < 27 → PySem.W.kitOne K (.ref (clA a i)) (.ref a.c_NothingLeft) = some (decide (i = 15))
  | 0, _ => Z.k_InvalidRuns_NothingLeft
  | 1, _ => Z.k_InvalidBlock_NothingLeft
  | 2, _ => Z.k_InvalidText_NothingLeft
  | 3, _ => Z.k_InvalidBook_NothingLeft
  | 4, _ => Z.k_InvalidNumber_NothingLeft
  | 5, _ => Z.k_InvalidRule_NothingLeft
  | 6, _ => Z.k_InvalidDisk_NothingLeft
  | 7, _ => Z.k_InvalidName_NothingLeft
  | 8, _ => Z.k_KnownName_NothingLeft
  | 9, _ => Z.k_UnknownName_NothingLeft
  | 10, _ => Z.k_Closed_NothingLeft
  | 11, _ => Z.k_Opened_NothingLeft
  | 12, _ => Z.k_InvalidEvent_NothingLeft
  | 13, _ => Z.k_InvalidRow_NothingLeft
  | 14, _ => Z.k_InvalidLine_NothingLeft
  | 15, _ => Z.k_NothingLeft_NothingLeft
  | 16, _ => Z.k_InvalidCommand_NothingLeft
  | 17, _ => Z.k_InvalidSizes_NothingLeft
  | 18, _ => Z.k_InvalidState_NothingLeft
  | 19, _ => Z.k_InvalidTable_NothingLeft
  | 20, _ => Z.k_NotClosed_NothingLeft
  | 21, _ => Z.k_Refusable_NothingLeft
  | 22, _ => Z.k_InvalidChoice_NothingLeft
  | 23, _ => Z.k_UnknownSet_NothingLeft
  | 24, _ => Z.k_TooMany_NothingLeft
  | 25, _ => Z.k_Refused_NothingLeft
  | 26, _ => Z.k_NotDone_NothingLeft
  | n + 27, h => by omega
theorem kt_InvalidCommand (Z : Tx K mg a) : ∀ i, i < 27 → PySem.W.kitOne K (.ref (clA a i)) (.ref a.c_InvalidCommand) = some (decide (i = 16))
  | 0, _ => Z.k_InvalidRuns_InvalidCommand
  | 1, _ => Z.k_InvalidBlock_InvalidCommand
  | 2, _ => Z.k_InvalidText_InvalidCommand
  | 3, _ => Z.k_InvalidBook_InvalidCommand
  | 4, _ => Z.k_InvalidNumber_InvalidCommand
  | 5, _ => Z.k_InvalidRule_InvalidCommand
  | 6, _ => Z.k_InvalidDisk_InvalidCommand
  | 7, _ => Z.k_InvalidName_InvalidCommand
  | 8, _ => Z.k_KnownName_InvalidCommand
  | 9, _ => Z.k_UnknownName_InvalidCommand
  | 10, _ => Z.k_Closed_InvalidCommand
  | 11, _ => Z.k_Opened_InvalidCommand
  | 12, _ => Z.k_InvalidEvent_InvalidCommand
  | 13, _ => Z.k_InvalidRow_InvalidCommand
  | 14, _ => Z.k_InvalidLine_InvalidCommand
  | 15, _ => Z.k_NothingLeft_InvalidCommand
  | 16, _ => Z.k_InvalidCommand_InvalidCommand
  | 17, _ => Z.k_InvalidSizes_InvalidCommand
  | 18, _ => Z.k_InvalidState_InvalidCommand
  | 19, _ => Z.k_InvalidTable_InvalidCommand
  | 20, _ => Z.k_NotClosed_InvalidCommand
  | 21, _ => Z.k_Refusable_InvalidCommand
  | 22, _ => Z.k_InvalidChoice_InvalidCommand
  | 23, _ => Z.k_UnknownSet_InvalidCommand
  | 24, _ => Z.k_TooMany_InvalidCommand
  | 25, _ => Z.k_Refused_InvalidCommand
  | 26, _ => Z.k_NotDone_InvalidCommand
  | n + 27, h => by omega
theorem kt_InvalidSizes (Z : Tx K mg a) : ∀ i, i < 27 → PySem.W.kitOne K (.ref (clA a i)) (.ref a.c_InvalidSizes) = some (decide (i = 17))
  | 0, _ => Z.k_InvalidRuns_InvalidSizes
  | 1, _ => Z.k_InvalidBlock_InvalidSizes
  | 2, _ => Z.k_InvalidText_InvalidSizes
  | 3, _ => Z.k_InvalidBook_InvalidSizes
  | 4, _ => Z.k_InvalidNumber_InvalidSizes
  | 5, _ => Z.k_InvalidRule_InvalidSizes
  | 6, _ => Z.k_InvalidDisk_InvalidSizes
  | 7, _ => Z.k_InvalidName_InvalidSizes
  | 8, _ => Z.k_KnownName_InvalidSizes
  | 9, _ => Z.k_UnknownName_InvalidSizes
  | 10, _ => Z.k_Closed_InvalidSizes
  | 11, _ => Z.k_Opened_InvalidSizes
  | 12, _ => Z.k_InvalidEvent_InvalidSizes
  | 13, _ => Z.k_InvalidRow_InvalidSizes
  | 14, _ => Z.k_InvalidLine_InvalidSizes
  | 15, _ => Z.k_NothingLeft_InvalidSizes
  | 16, _ => Z.k_InvalidCommand_InvalidSizes
  | 17, _ => Z.k_InvalidSizes_InvalidSizes
  | 18, _ => Z.k_InvalidState_InvalidSizes
  | 19, _ => Z.k_InvalidTable_InvalidSizes
  | 20, _ => Z.k_NotClosed_InvalidSizes
  | 21, _ => Z.k_Refusable_InvalidSizes
  | 22, _ => Z.k_InvalidChoice_InvalidSizes
  | 23, _ => Z.k_UnknownSet_InvalidSizes
  | 24, _ => Z.k_TooMany_InvalidSizes
  | 25, _ => Z.k_Refused_InvalidSizes
  | 26, _ => Z.k_NotDone_InvalidSizes
  | n + 27, h => by omega
theorem kt_InvalidState (Z : Tx K mg a) : ∀ i, i < 27 → PySem.W.kitOne K (.ref (clA a i)) (.ref a.c_InvalidState) = some (decide (i = 18))
  | 0, _ => Z.k_InvalidRuns_InvalidState
  | 1, _ => Z.k_InvalidBlock_InvalidState
  | 2, _ => Z.k_InvalidText_InvalidState
  | 3, _ => Z.k_InvalidBook_InvalidState
  | 4, _ => Z.k_InvalidNumber_InvalidState
  | 5, _ => Z.k_InvalidRule_InvalidState
  | 6, _ => Z.k_InvalidDisk_InvalidState
  | 7, _ => Z.k_InvalidName_InvalidState
  | 8, _ => Z.k_KnownName_InvalidState
  | 9, _ => Z.k_UnknownName_InvalidState
  | 10, _ => Z.k_Closed_InvalidState
  | 11, _ => Z.k_Opened_InvalidState
  | 12, _ => Z.k_InvalidEvent_InvalidState
  | 13, _ => Z.k_InvalidRow_InvalidState
  | 14, _ => Z.k_InvalidLine_InvalidState
  | 15, _ => Z.k_NothingLeft_InvalidState
  | 16, _ => Z.k_InvalidCommand_InvalidState
  | 17, _ => Z.k_InvalidSizes_InvalidState
  | 18, _ => Z.k_InvalidState_InvalidState
  | 19, _ => Z.k_InvalidTable_InvalidState
  | 20, _ => Z.k_NotClosed_InvalidState
  | 21, _ => Z.k_Refusable_InvalidState
  | 22, _ => Z.k_InvalidChoice_InvalidState
  | 23, _ => Z.k_UnknownSet_InvalidState
  | 24, _ => Z.k_TooMany_InvalidState
  | 25, _ => Z.k_Refused_InvalidState
  | 26, _ => Z.k_NotDone_InvalidState
  | n + 27, h => by omega
theorem kt_InvalidTable (Z : Tx K mg a) : ∀ i, i < 27 → PySem.W.kitOne K (.ref (clA a i)) (.ref a.c_InvalidTable) = some (decide (i = 19))
  | 0, _ => Z.k_InvalidRuns_InvalidTable
  | 1, _ => Z.k_InvalidBlock_InvalidTable
  | 2, _ => Z.k_InvalidText_InvalidTable
  | 3, _ => Z.k_InvalidBook_InvalidTable
  | 4, _ => Z.k_InvalidNumber_InvalidTable
  | 5, _ => Z.k_InvalidRule_InvalidTable
  | 6, _ => Z.k_InvalidDisk_InvalidTable
  | 7, _ => Z.k_InvalidName_InvalidTable
  | 8, _ => Z.k_KnownName_InvalidTable
  | 9, _ => Z.k_UnknownName_InvalidTable
  | 10, _ => Z.k_Closed_InvalidTable
  | 11, _ => Z.k_Opened_InvalidTable
  | 12, _ => Z.k_InvalidEvent_InvalidTable
  | 13, _ => Z.k_InvalidRow_InvalidTable
  | 14, _ => Z.k_InvalidLine_InvalidTable
  | 15, _ => Z.k_NothingLeft_InvalidTable
  | 16, _ => Z.k_InvalidCommand_InvalidTable
  | 17, _ => Z.k_InvalidSizes_InvalidTable
  | 18, _ => Z.k_InvalidState_InvalidTable
  | 19, _ => Z.k_InvalidTable_InvalidTable
  | 20, _ => Z.k_NotClosed_InvalidTable
  | 21, _ => Z.k_Refusable_InvalidTable
  | 22, _ => Z.k_InvalidChoice_InvalidTable
  | 23, _ => Z.k_UnknownSet_InvalidTable
  | 24, _ => Z.k_TooMany_InvalidTable
  | 25, _ => Z.k_Refused_InvalidTable
  | 26, _ => Z.k_NotDone_InvalidTable
  | n + 27, h => by omega
theorem kt_NotClosed (Z : Tx K mg a) : ∀ i, i < 27 → PySem.W.kitOne K (.ref (clA a i)) (.ref a.c_NotClosed) = some (decide (i = 20))
  | 0, _ => Z.k_InvalidRuns_NotClosed
  | 1, _ => Z.k_InvalidBlock_NotClosed
  | 2, _ => Z.k_InvalidText_NotClosed
  | 3, _ => Z.k_InvalidBook_NotClosed
  | 4, _ => Z.k_InvalidNumber_NotClosed
  | 5, _ => Z.k_InvalidRule_NotClosed
  | 6, _ => Z.k_InvalidDisk_NotClosed
  | 7, _ => Z.k_InvalidName_NotClosed
  | 8, _ => Z.k_KnownName_NotClosed
  | 9, _ => Z.k_UnknownName_NotClosed
  | 10, _ => Z.k_Closed_NotClosed
  | 11, _ => Z.k_Opened_NotClosed
  | 12, _ => Z.k_InvalidEvent_NotClosed
  | 13, _ => Z.k_InvalidRow_NotClosed
  | 14, _ => Z.k_InvalidLine_NotClosed
  | 15, _ => Z.k_NothingLeft_NotClosed
  | 16, _ => Z.k_InvalidCommand_NotClosed
  | 17, _ => Z.k_InvalidSizes_NotClosed
  | 18, _ => Z.k_InvalidState_NotClosed
  | 19, _ => Z.k_InvalidTable_NotClosed
  | 20, _ => Z.k_NotClosed_NotClosed
  | 21, _ => Z.k_Refusable_NotClosed
  | 22, _ => Z.k_InvalidChoice_NotClosed
  | 23, _ => Z.k_UnknownSet_NotClosed
  | 24, _ => Z.k_TooMany_NotClosed
  | 25, _ => Z.k_Refused_NotClosed
  | 26, _ => Z.k_NotDone_NotClosed
  | n + 27, h => by omega
theorem kt_Refusable (Z : Tx K mg a) : ∀ i, i < 27 → PySem.W.kitOne K (.ref (clA a i)) (.ref a.c_Refusable) = some (decide (i = 21))
  | 0, _ => Z.k_InvalidRuns_Refusable
  | 1, _ => Z.k_InvalidBlock_Refusable
  | 2, _ => Z.k_InvalidText_Refusable
  | 3, _ => Z.k_InvalidBook_Refusable
  | 4, _ => Z.k_InvalidNumber_Refusable
  | 5, _ => Z.k_InvalidRule_Refusable
  | 6, _ => Z.k_InvalidDisk_Refusable
  | 7, _ => Z.k_InvalidName_Refusable
  | 8, _ => Z.k_KnownName_Refusable
  | 9, _ => Z.k_UnknownName_Refusable
  | 10, _ => Z.k_Closed_Refusable
  | 11, _ => Z.k_Opened_Refusable
  | 12, _ => Z.k_InvalidEvent_Refusable
  | 13, _ => Z.k_InvalidRow_Refusable
  | 14, _ => Z.k_InvalidLine_Refusable
  | 15, _ => Z.k_NothingLeft_Refusable
  | 16, _ => Z.k_InvalidCommand_Refusable
  | 17, _ => Z.k_InvalidSizes_Refusable
  | 18, _ => Z.k_InvalidState_Refusable
  | 19, _ => Z.k_InvalidTable_Refusable
  | 20, _ => Z.k_NotClosed_Refusable
  | 21, _ => Z.k_Refusable_Refusable
  | 22, _ => Z.k_InvalidChoice_Refusable
  | 23, _ => Z.k_UnknownSet_Refusable
  | 24, _ => Z.k_TooMany_Refusable
  | 25, _ => Z.k_Refused_Refusable
  | 26, _ => Z.k_NotDone_Refusable
  | n + 27, h => by omega
theorem kt_InvalidChoice (Z : Tx K mg a) : ∀ i, i < 27 → PySem.W.kitOne K (.ref (clA a i)) (.ref a.c_InvalidChoice) = some (decide (i = 22))
  | 0, _ => Z.k_InvalidRuns_InvalidChoice
  | 1, _ => Z.k_InvalidBlock_InvalidChoice
  | 2, _ => Z.k_InvalidText_InvalidChoice
  | 3, _ => Z.k_InvalidBook_InvalidChoice
  | 4, _ => Z.k_InvalidNumber_InvalidChoice
  | 5, _ => Z.k_InvalidRule_InvalidChoice
  | 6, _ => Z.k_InvalidDisk_InvalidChoice
  | 7, _ => Z.k_InvalidName_InvalidChoice
  | 8, _ => Z.k_KnownName_InvalidChoice
  | 9, _ => Z.k_UnknownName_InvalidChoice
  | 10, _ => Z.k_Closed_InvalidChoice
  | 11, _ => Z.k_Opened_InvalidChoice
  | 12, _ => Z.k_InvalidEvent_InvalidChoice
  | 13, _ => Z.k_InvalidRow_InvalidChoice
  | 14, _ => Z.k_InvalidLine_InvalidChoice
  | 15, _ => Z.k_NothingLeft_InvalidChoice
  | 16, _ => Z.k_InvalidCommand_InvalidChoice
  | 17, _ => Z.k_InvalidSizes_InvalidChoice
  | 18, _ => Z.k_InvalidState_InvalidChoice
  | 19, _ => Z.k_InvalidTable_InvalidChoice
  | 20, _ => Z.k_NotClosed_InvalidChoice
  | 21, _ => Z.k_Refusable_InvalidChoice
  | 22, _ => Z.k_InvalidChoice_InvalidChoice
  | 23, _ => Z.k_UnknownSet_InvalidChoice
  | 24, _ => Z.k_TooMany_InvalidChoice
  | 25, _ => Z.k_Refused_InvalidChoice
  | 26, _ => Z.k_NotDone_InvalidChoice
  | n + 27, h => by omega
theorem kt_UnknownSet (Z : Tx K mg a) : ∀ i, i < 27 → PySem.W.kitOne K (.ref (clA a i)) (.ref a.c_UnknownSet) = some (decide (i = 23))
  | 0, _ => Z.k_InvalidRuns_UnknownSet
  | 1, _ => Z.k_InvalidBlock_UnknownSet
  | 2, _ => Z.k_InvalidText_UnknownSet
  | 3, _ => Z.k_InvalidBook_UnknownSet
  | 4, _ => Z.k_InvalidNumber_UnknownSet
  | 5, _ => Z.k_InvalidRule_UnknownSet
  | 6, _ => Z.k_InvalidDisk_UnknownSet
  | 7, _ => Z.k_InvalidName_UnknownSet
  | 8, _ => Z.k_KnownName_UnknownSet
  | 9, _ => Z.k_UnknownName_UnknownSet
  | 10, _ => Z.k_Closed_UnknownSet
  | 11, _ => Z.k_Opened_UnknownSet
  | 12, _ => Z.k_InvalidEvent_UnknownSet
  | 13, _ => Z.k_InvalidRow_UnknownSet
  | 14, _ => Z.k_InvalidLine_UnknownSet
  | 15, _ => Z.k_NothingLeft_UnknownSet
  | 16, _ => Z.k_InvalidCommand_UnknownSet
  | 17, _ => Z.k_InvalidSizes_UnknownSet
  | 18, _ => Z.k_InvalidState_UnknownSet
  | 19, _ => Z.k_InvalidTable_UnknownSet
  | 20, _ => Z.k_NotClosed_UnknownSet
  | 21, _ => Z.k_Refusable_UnknownSet
  | 22, _ => Z.k_InvalidChoice_UnknownSet
  | 23, _ => Z.k_UnknownSet_UnknownSet
  | 24, _ => Z.k_TooMany_UnknownSet
  | 25, _ => Z.k_Refused_UnknownSet
  | 26, _ => Z.k_NotDone_UnknownSet
  | n + 27, h => by omega
theorem kt_TooMany (Z : Tx K mg a) : ∀ i, i < 27 → PySem.W.kitOne K (.ref (clA a i)) (.ref a.c_TooMany) = some (decide (i = 24))
  | 0, _ => Z.k_InvalidRuns_TooMany
  | 1, _ => Z.k_InvalidBlock_TooMany
  | 2, _ => Z.k_InvalidText_TooMany
  | 3, _ => Z.k_InvalidBook_TooMany
  | 4, _ => Z.k_InvalidNumber_TooMany
  | 5, _ => Z.k_InvalidRule_TooMany
  | 6, _ => Z.k_InvalidDisk_TooMany
  | 7, _ => Z.k_InvalidName_TooMany
  | 8, _ => Z.k_KnownName_TooMany
  | 9, _ => Z.k_UnknownName_TooMany
  | 10, _ => Z.k_Closed_TooMany
  | 11, _ => Z.k_Opened_TooMany
  | 12, _ => Z.k_InvalidEvent_TooMany
  | 13, _ => Z.k_InvalidRow_TooMany
  | 14, _ => Z.k_InvalidLine_TooMany
  | 15, _ => Z.k_NothingLeft_TooMany
  | 16, _ => Z.k_InvalidCommand_TooMany
  | 17, _ => Z.k_InvalidSizes_TooMany
  | 18, _ => Z.k_InvalidState_TooMany
  | 19, _ => Z.k_InvalidTable_TooMany
  | 20, _ => Z.k_NotClosed_TooMany
  | 21, _ => Z.k_Refusable_TooMany
  | 22, _ => Z.k_InvalidChoice_TooMany
  | 23, _ => Z.k_UnknownSet_TooMany
  | 24, _ => Z.k_TooMany_TooMany
  | 25, _ => Z.k_Refused_TooMany
  | 26, _ => Z.k_NotDone_TooMany
  | n + 27, h => by omega
theorem kt_Refused (Z : Tx K mg a) : ∀ i, i < 27 → PySem.W.kitOne K (.ref (clA a i)) (.ref a.c_Refused) = some (decide (i = 25))
  | 0, _ => Z.k_InvalidRuns_Refused
  | 1, _ => Z.k_InvalidBlock_Refused
  | 2, _ => Z.k_InvalidText_Refused
  | 3, _ => Z.k_InvalidBook_Refused
  | 4, _ => Z.k_InvalidNumber_Refused
  | 5, _ => Z.k_InvalidRule_Refused
  | 6, _ => Z.k_InvalidDisk_Refused
  | 7, _ => Z.k_InvalidName_Refused
  | 8, _ => Z.k_KnownName_Refused
  | 9, _ => Z.k_UnknownName_Refused
  | 10, _ => Z.k_Closed_Refused
  | 11, _ => Z.k_Opened_Refused
  | 12, _ => Z.k_InvalidEvent_Refused
  | 13, _ => Z.k_InvalidRow_Refused
  | 14, _ => Z.k_InvalidLine_Refused
  | 15, _ => Z.k_NothingLeft_Refused
  | 16, _ => Z.k_InvalidCommand_Refused
  | 17, _ => Z.k_InvalidSizes_Refused
  | 18, _ => Z.k_InvalidState_Refused
  | 19, _ => Z.k_InvalidTable_Refused
  | 20, _ => Z.k_NotClosed_Refused
  | 21, _ => Z.k_Refusable_Refused
  | 22, _ => Z.k_InvalidChoice_Refused
  | 23, _ => Z.k_UnknownSet_Refused
  | 24, _ => Z.k_TooMany_Refused
  | 25, _ => Z.k_Refused_Refused
  | 26, _ => Z.k_NotDone_Refused
  | n + 27, h => by omega
theorem kt_NotDone (Z : Tx K mg a) : ∀ i, i < 27 → PySem.W.kitOne K (.ref (clA a i)) (.ref a.c_NotDone) = some (decide (i = 26))
  | 0, _ => Z.k_InvalidRuns_NotDone
  | 1, _ => Z.k_InvalidBlock_NotDone
  | 2, _ => Z.k_InvalidText_NotDone
  | 3, _ => Z.k_InvalidBook_NotDone
  | 4, _ => Z.k_InvalidNumber_NotDone
  | 5, _ => Z.k_InvalidRule_NotDone
  | 6, _ => Z.k_InvalidDisk_NotDone
  | 7, _ => Z.k_InvalidName_NotDone
  | 8, _ => Z.k_KnownName_NotDone
  | 9, _ => Z.k_UnknownName_NotDone
  | 10, _ => Z.k_Closed_NotDone
  | 11, _ => Z.k_Opened_NotDone
  | 12, _ => Z.k_InvalidEvent_NotDone
  | 13, _ => Z.k_InvalidRow_NotDone
  | 14, _ => Z.k_InvalidLine_NotDone
  | 15, _ => Z.k_NothingLeft_NotDone
  | 16, _ => Z.k_InvalidCommand_NotDone
  | 17, _ => Z.k_InvalidSizes_NotDone
  | 18, _ => Z.k_InvalidState_NotDone
  | 19, _ => Z.k_InvalidTable_NotDone
  | 20, _ => Z.k_NotClosed_NotDone
  | 21, _ => Z.k_Refusable_NotDone
  | 22, _ => Z.k_InvalidChoice_NotDone
  | 23, _ => Z.k_UnknownSet_NotDone
  | 24, _ => Z.k_TooMany_NotDone
  | 25, _ => Z.k_Refused_NotDone
  | 26, _ => Z.k_NotDone_NotDone
  | n + 27, h => by omega
theorem kq_all (Z : Tx K mg a) : ∀ i, i < 27 → ExcC K (clA a i)
  | 0, _ => Z.q_InvalidRuns
  | 1, _ => Z.q_InvalidBlock
  | 2, _ => Z.q_InvalidText
  | 3, _ => Z.q_InvalidBook
  | 4, _ => Z.q_InvalidNumber
  | 5, _ => Z.q_InvalidRule
  | 6, _ => Z.q_InvalidDisk
  | 7, _ => Z.q_InvalidName
  | 8, _ => Z.q_KnownName
  | 9, _ => Z.q_UnknownName
  | 10, _ => Z.q_Closed
  | 11, _ => Z.q_Opened
  | 12, _ => Z.q_InvalidEvent
  | 13, _ => Z.q_InvalidRow
  | 14, _ => Z.q_InvalidLine
  | 15, _ => Z.q_NothingLeft
  | 16, _ => Z.q_InvalidCommand
  | 17, _ => Z.q_InvalidSizes
  | 18, _ => Z.q_InvalidState
  | 19, _ => Z.q_InvalidTable
  | 20, _ => Z.q_NotClosed
  | 21, _ => Z.q_Refusable
  | 22, _ => Z.q_InvalidChoice
  | 23, _ => Z.q_UnknownSet
  | 24, _ => Z.q_TooMany
  | 25, _ => Z.q_Refused
  | 26, _ => Z.q_NotDone
  | n + 27, h => by omega
theorem kg_all (Z : Tx K mg a) : ∀ i, i < 27 → PySem.W.kitOne K (.ref (clA a i)) (.ref a.c_GrowError) = some true
  | 0, _ => Z.k_InvalidRuns_GrowError
  | 1, _ => Z.k_InvalidBlock_GrowError
  | 2, _ => Z.k_InvalidText_GrowError
  | 3, _ => Z.k_InvalidBook_GrowError
  | 4, _ => Z.k_InvalidNumber_GrowError
  | 5, _ => Z.k_InvalidRule_GrowError
  | 6, _ => Z.k_InvalidDisk_GrowError
  | 7, _ => Z.k_InvalidName_GrowError
  | 8, _ => Z.k_KnownName_GrowError
  | 9, _ => Z.k_UnknownName_GrowError
  | 10, _ => Z.k_Closed_GrowError
  | 11, _ => Z.k_Opened_GrowError
  | 12, _ => Z.k_InvalidEvent_GrowError
  | 13, _ => Z.k_InvalidRow_GrowError
  | 14, _ => Z.k_InvalidLine_GrowError
  | 15, _ => Z.k_NothingLeft_GrowError
  | 16, _ => Z.k_InvalidCommand_GrowError
  | 17, _ => Z.k_InvalidSizes_GrowError
  | 18, _ => Z.k_InvalidState_GrowError
  | 19, _ => Z.k_InvalidTable_GrowError
  | 20, _ => Z.k_NotClosed_GrowError
  | 21, _ => Z.k_Refusable_GrowError
  | 22, _ => Z.k_InvalidChoice_GrowError
  | 23, _ => Z.k_UnknownSet_GrowError
  | 24, _ => Z.k_TooMany_GrowError
  | 25, _ => Z.k_Refused_GrowError
  | 26, _ => Z.k_NotDone_GrowError
  | n + 27, h => by omega
theorem kv_all (Z : Tx K mg a) : ∀ i, i < 27 → PySem.W.kitOne K (.ref (clA a i)) (.type "ValueError") = some true
  | 0, _ => Z.k_InvalidRuns_ValueError
  | 1, _ => Z.k_InvalidBlock_ValueError
  | 2, _ => Z.k_InvalidText_ValueError
  | 3, _ => Z.k_InvalidBook_ValueError
  | 4, _ => Z.k_InvalidNumber_ValueError
  | 5, _ => Z.k_InvalidRule_ValueError
  | 6, _ => Z.k_InvalidDisk_ValueError
  | 7, _ => Z.k_InvalidName_ValueError
  | 8, _ => Z.k_KnownName_ValueError
  | 9, _ => Z.k_UnknownName_ValueError
  | 10, _ => Z.k_Closed_ValueError
  | 11, _ => Z.k_Opened_ValueError
  | 12, _ => Z.k_InvalidEvent_ValueError
  | 13, _ => Z.k_InvalidRow_ValueError
  | 14, _ => Z.k_InvalidLine_ValueError
  | 15, _ => Z.k_NothingLeft_ValueError
  | 16, _ => Z.k_InvalidCommand_ValueError
  | 17, _ => Z.k_InvalidSizes_ValueError
  | 18, _ => Z.k_InvalidState_ValueError
  | 19, _ => Z.k_InvalidTable_ValueError
  | 20, _ => Z.k_NotClosed_ValueError
  | 21, _ => Z.k_Refusable_ValueError
  | 22, _ => Z.k_InvalidChoice_ValueError
  | 23, _ => Z.k_UnknownSet_ValueError
  | 24, _ => Z.k_TooMany_ValueError
  | 25, _ => Z.k_Refused_ValueError
  | 26, _ => Z.k_NotDone_ValueError
  | n + 27, h => by omega
theorem pl_law_classes (Z : Tx K mg a) : ∀ ts h Q E, ts.length = 1 → C_law_classes a ts h Q E → B_law_classes K a (ends Q E) (startT N_law_classes.length ts) h := by
  rintro ts h Q E - ⟨i, gs, rfl, hi, q⟩
  unfold B_law_classes
  have X := kq_all Z i hi
  refine set_ev (ev_lstT (ea_cons (ev_isX (ev_var rfl) X (kt_InvalidRuns Z i hi)) (ea_cons (ev_isX (ev_var rfl) X (kt_InvalidBlock Z i hi)) (ea_cons (ev_isX (ev_var rfl) X (kt_InvalidText Z i hi)) ea_nil))) (Nat.le_of_ble_eq_true rfl)) ?_
  refine set_ev (ev_cat (ev_var rfl) (ev_lstT (ea_cons (ev_isX (ev_var rfl) X (kt_InvalidBook Z i hi)) (ea_cons (ev_isX (ev_var rfl) X (kt_InvalidNumber Z i hi)) (ea_cons (ev_isX (ev_var rfl) X (kt_InvalidRule Z i hi)) ea_nil))) (Nat.le_of_ble_eq_true rfl)) (Nat.le_of_ble_eq_true rfl)) ?_
  refine set_ev (ev_cat (ev_var rfl) (ev_lstT (ea_cons (ev_isX (ev_var rfl) X (kt_InvalidDisk Z i hi)) (ea_cons (ev_isX (ev_var rfl) X (kt_InvalidName Z i hi)) (ea_cons (ev_isX (ev_var rfl) X (kt_KnownName Z i hi)) ea_nil))) (Nat.le_of_ble_eq_true rfl)) (Nat.le_of_ble_eq_true rfl)) ?_
  refine set_ev (ev_cat (ev_var rfl) (ev_lstT (ea_cons (ev_isX (ev_var rfl) X (kt_UnknownName Z i hi)) (ea_cons (ev_isX (ev_var rfl) X (kt_Closed Z i hi)) (ea_cons (ev_isX (ev_var rfl) X (kt_Opened Z i hi)) ea_nil))) (Nat.le_of_ble_eq_true rfl)) (Nat.le_of_ble_eq_true rfl)) ?_
  refine set_ev (ev_cat (ev_var rfl) (ev_lstT (ea_cons (ev_isX (ev_var rfl) X (kt_InvalidEvent Z i hi)) (ea_cons (ev_isX (ev_var rfl) X (kt_InvalidRow Z i hi)) (ea_cons (ev_isX (ev_var rfl) X (kt_InvalidLine Z i hi)) ea_nil))) (Nat.le_of_ble_eq_true rfl)) (Nat.le_of_ble_eq_true rfl)) ?_
  refine set_ev (ev_cat (ev_var rfl) (ev_lstT (ea_cons (ev_isX (ev_var rfl) X (kt_NothingLeft Z i hi)) (ea_cons (ev_isX (ev_var rfl) X (kt_InvalidCommand Z i hi)) (ea_cons (ev_isX (ev_var rfl) X (kt_InvalidSizes Z i hi)) ea_nil))) (Nat.le_of_ble_eq_true rfl)) (Nat.le_of_ble_eq_true rfl)) ?_
  refine set_ev (ev_cat (ev_var rfl) (ev_lstT (ea_cons (ev_isX (ev_var rfl) X (kt_InvalidState Z i hi)) (ea_cons (ev_isX (ev_var rfl) X (kt_InvalidTable Z i hi)) (ea_cons (ev_isX (ev_var rfl) X (kt_NotClosed Z i hi)) ea_nil))) (Nat.le_of_ble_eq_true rfl)) (Nat.le_of_ble_eq_true rfl)) ?_
  refine set_ev (ev_cat (ev_var rfl) (ev_lstT (ea_cons (ev_isX (ev_var rfl) X (kt_Refusable Z i hi)) (ea_cons (ev_isX (ev_var rfl) X (kt_InvalidChoice Z i hi)) (ea_cons (ev_isX (ev_var rfl) X (kt_UnknownSet Z i hi)) ea_nil))) (Nat.le_of_ble_eq_true rfl)) (Nat.le_of_ble_eq_true rfl)) ?_
  exact ret_go (ev_catL (ev_var rfl) (ev_lstT (ea_cons (ev_isX (ev_var rfl) X (kt_TooMany Z i hi)) (ea_cons (ev_isX (ev_var rfl) X (kt_Refused Z i hi)) (ea_cons (ev_isX (ev_var rfl) X (kt_NotDone Z i hi)) ea_nil))) (Nat.le_of_ble_eq_true rfl)) (Nat.le_of_ble_eq_true rfl) fun p np => dn_self (q p np))
theorem pl_law_placed (Z : Tx K mg a) : ∀ ts h Q E, ts.length = 1 → C_law_placed a ts h Q E → B_law_placed K a (ends Q E) (startT N_law_placed.length ts) h := by
  rintro ts h Q E - ⟨t, rfl, q⟩
  unfold B_law_placed
  refine set_ev (ev_lstT (ea_cons (ev_xob (ev_err (ea_cons (ev_var rfl) ea_nil)) Z.x_InvalidRuns Z.n_InvalidRuns (lk1 _ _)) (ea_cons (ev_xob (ev_err (ea_cons (ev_var rfl) ea_nil)) Z.x_InvalidBlock Z.n_InvalidBlock (lk1 _ _)) (ea_cons (ev_xob (ev_err (ea_cons (ev_var rfl) ea_nil)) Z.x_InvalidText Z.n_InvalidText (lk1 _ _)) ea_nil))) (Nat.le_of_ble_eq_true rfl)) ?_
  refine set_ev (ev_cat (ev_var rfl) (ev_lstT (ea_cons (ev_xob (ev_err (ea_cons (ev_var rfl) ea_nil)) Z.x_InvalidBook Z.n_InvalidBook (lk1 _ _)) (ea_cons (ev_xob (ev_err (ea_cons (ev_var rfl) ea_nil)) Z.x_InvalidNumber Z.n_InvalidNumber (lk1 _ _)) (ea_cons (ev_xob (ev_err (ea_cons (ev_var rfl) ea_nil)) Z.x_InvalidRule Z.n_InvalidRule (lk1 _ _)) ea_nil))) (Nat.le_of_ble_eq_true rfl)) (Nat.le_of_ble_eq_true rfl)) ?_
  refine set_ev (ev_cat (ev_var rfl) (ev_lstT (ea_cons (ev_xob (ev_err (ea_cons (ev_var rfl) ea_nil)) Z.x_InvalidDisk Z.n_InvalidDisk (lk1 _ _)) (ea_cons (ev_xob (ev_err (ea_cons (ev_var rfl) ea_nil)) Z.x_InvalidName Z.n_InvalidName (lk1 _ _)) (ea_cons (ev_xob (ev_err (ea_cons (ev_var rfl) ea_nil)) Z.x_KnownName Z.n_KnownName (lk1 _ _)) ea_nil))) (Nat.le_of_ble_eq_true rfl)) (Nat.le_of_ble_eq_true rfl)) ?_
  refine set_ev (ev_cat (ev_var rfl) (ev_lstT (ea_cons (ev_xob (ev_err (ea_cons (ev_var rfl) ea_nil)) Z.x_UnknownName Z.n_UnknownName (lk1 _ _)) (ea_cons (ev_xob (ev_err (ea_cons (ev_var rfl) ea_nil)) Z.x_Closed Z.n_Closed (lk1 _ _)) (ea_cons (ev_xob (ev_err (ea_cons (ev_var rfl) ea_nil)) Z.x_Opened Z.n_Opened (lk1 _ _)) ea_nil))) (Nat.le_of_ble_eq_true rfl)) (Nat.le_of_ble_eq_true rfl)) ?_
  refine set_ev (ev_cat (ev_var rfl) (ev_lstT (ea_cons (ev_xob (ev_err (ea_cons (ev_var rfl) ea_nil)) Z.x_InvalidEvent Z.n_InvalidEvent (lk1 _ _)) (ea_cons (ev_xob (ev_err (ea_cons (ev_var rfl) ea_nil)) Z.x_InvalidRow Z.n_InvalidRow (lk1 _ _)) (ea_cons (ev_xob (ev_err (ea_cons (ev_var rfl) ea_nil)) Z.x_InvalidLine Z.n_InvalidLine (lk1 _ _)) ea_nil))) (Nat.le_of_ble_eq_true rfl)) (Nat.le_of_ble_eq_true rfl)) ?_
  refine set_ev (ev_cat (ev_var rfl) (ev_lstT (ea_cons (ev_xob (ev_err (ea_cons (ev_var rfl) ea_nil)) Z.x_NothingLeft Z.n_NothingLeft (lk1 _ _)) (ea_cons (ev_xob (ev_err (ea_cons (ev_var rfl) ea_nil)) Z.x_InvalidCommand Z.n_InvalidCommand (lk1 _ _)) (ea_cons (ev_xob (ev_err (ea_cons (ev_var rfl) ea_nil)) Z.x_InvalidSizes Z.n_InvalidSizes (lk1 _ _)) ea_nil))) (Nat.le_of_ble_eq_true rfl)) (Nat.le_of_ble_eq_true rfl)) ?_
  refine set_ev (ev_cat (ev_var rfl) (ev_lstT (ea_cons (ev_xob (ev_err (ea_cons (ev_var rfl) ea_nil)) Z.x_InvalidState Z.n_InvalidState (lk1 _ _)) (ea_cons (ev_xob (ev_err (ea_cons (ev_var rfl) ea_nil)) Z.x_InvalidTable Z.n_InvalidTable (lk1 _ _)) (ea_cons (ev_xob (ev_err (ea_cons (ev_var rfl) ea_nil)) Z.x_NotClosed Z.n_NotClosed (lk1 _ _)) ea_nil))) (Nat.le_of_ble_eq_true rfl)) (Nat.le_of_ble_eq_true rfl)) ?_
  refine set_ev (ev_cat (ev_var rfl) (ev_lstT (ea_cons (ev_xob (ev_err (ea_cons (ev_var rfl) ea_nil)) Z.x_Refusable Z.n_Refusable (lk1 _ _)) (ea_cons (ev_xob (ev_err (ea_cons (ev_var rfl) ea_nil)) Z.x_InvalidChoice Z.n_InvalidChoice (lk1 _ _)) (ea_cons (ev_xob (ev_err (ea_cons (ev_var rfl) ea_nil)) Z.x_UnknownSet Z.n_UnknownSet (lk1 _ _)) ea_nil))) (Nat.le_of_ble_eq_true rfl)) (Nat.le_of_ble_eq_true rfl)) ?_
  refine set_ev (ev_cat (ev_var rfl) (ev_lstT (ea_cons (ev_xob (ev_err (ea_cons (ev_var rfl) ea_nil)) Z.x_TooMany Z.n_TooMany (lk1 _ _)) (ea_cons (ev_xob (ev_err2 (ea_cons (ev_var rfl) (ea_cons ev_c ea_nil))) Z.x_Refused Z.n_Refused rfl) (ea_cons (ev_xob (ev_err2 (ea_cons (ev_var rfl) (ea_cons ev_c ea_nil))) Z.x_NotDone Z.n_NotDone rfl) ea_nil))) (Nat.le_of_ble_eq_true rfl)) (Nat.le_of_ble_eq_true rfl)) ?_
  exact ret_go (ev_catL (ev_var rfl) (ev_lstT (ea_cons (ev_xob (ev_err2 (ea_cons ev_c (ea_cons (ev_var rfl) ea_nil))) Z.x_Refused Z.n2_Refused rfl) ea_nil) (Nat.le_of_ble_eq_true rfl)) (Nat.le_of_ble_eq_true rfl) fun p np => dn_self (q p np))
theorem pl_law_fields (Z : Tx K mg a) : ∀ ts h Q E, ts.length = 1 → C_law_fields a ts h Q E → B_law_fields K a (ends Q E) (startT N_law_fields.length ts) h := by
  rintro ts h Q E - ⟨t, rfl, q⟩
  unfold B_law_fields
  refine set_go (lst_go (ea_cons (ev_xob (ev_err (ea_cons (ev_var rfl) ea_nil)) Z.x_InvalidRuns Z.n_InvalidRuns (lk1 _ _)) (ea_cons (ev_xob (ev_err (ea_cons (ev_var rfl) ea_nil)) Z.x_InvalidBlock Z.n_InvalidBlock (lk1 _ _)) (ea_cons (ev_xob (ev_err (ea_cons (ev_var rfl) ea_nil)) Z.x_InvalidText Z.n_InvalidText (lk1 _ _)) ea_nil))) (Nat.le_of_ble_eq_true rfl) fun p0 np0 => ?_)
  have s0 : ∀ o, Sub h (put h p0 o) := fun o => sub_put np0
  refine set_go (add_ref (p := p0) rfl put_same (ev_lstT (ea_cons (ev_xob (ev_err (ea_cons (ev_var rfl) ea_nil)) Z.x_InvalidBook Z.n_InvalidBook (lk1 _ _)) (ea_cons (ev_xob (ev_err (ea_cons (ev_var rfl) ea_nil)) Z.x_InvalidNumber Z.n_InvalidNumber (lk1 _ _)) (ea_cons (ev_xob (ev_err (ea_cons (ev_var rfl) ea_nil)) Z.x_InvalidRule Z.n_InvalidRule (lk1 _ _)) ea_nil))) (Nat.le_of_ble_eq_true rfl)) (Nat.le_of_ble_eq_true rfl) fun p1 np1 => ?_)
  have s1 : ∀ o, Sub h (put _ p1 o) := fun o z y e => sub_put np1 z y (s0 _ z y e)
  refine set_go (add_ref (p := p1) rfl put_same (ev_lstT (ea_cons (ev_xob (ev_err (ea_cons (ev_var rfl) ea_nil)) Z.x_InvalidDisk Z.n_InvalidDisk (lk1 _ _)) (ea_cons (ev_xob (ev_err (ea_cons (ev_var rfl) ea_nil)) Z.x_InvalidName Z.n_InvalidName (lk1 _ _)) (ea_cons (ev_xob (ev_err (ea_cons (ev_var rfl) ea_nil)) Z.x_KnownName Z.n_KnownName (lk1 _ _)) ea_nil))) (Nat.le_of_ble_eq_true rfl)) (Nat.le_of_ble_eq_true rfl) fun p2 np2 => ?_)
  have s2 : ∀ o, Sub h (put _ p2 o) := fun o z y e => sub_put np2 z y (s1 _ z y e)
  refine set_go (add_ref (p := p2) rfl put_same (ev_lstT (ea_cons (ev_xob (ev_err (ea_cons (ev_var rfl) ea_nil)) Z.x_UnknownName Z.n_UnknownName (lk1 _ _)) (ea_cons (ev_xob (ev_err (ea_cons (ev_var rfl) ea_nil)) Z.x_Closed Z.n_Closed (lk1 _ _)) (ea_cons (ev_xob (ev_err (ea_cons (ev_var rfl) ea_nil)) Z.x_Opened Z.n_Opened (lk1 _ _)) ea_nil))) (Nat.le_of_ble_eq_true rfl)) (Nat.le_of_ble_eq_true rfl) fun p3 np3 => ?_)
  have s3 : ∀ o, Sub h (put _ p3 o) := fun o z y e => sub_put np3 z y (s2 _ z y e)
  refine set_go (add_ref (p := p3) rfl put_same (ev_lstT (ea_cons (ev_xob (ev_err (ea_cons (ev_var rfl) ea_nil)) Z.x_InvalidEvent Z.n_InvalidEvent (lk1 _ _)) (ea_cons (ev_xob (ev_err (ea_cons (ev_var rfl) ea_nil)) Z.x_InvalidRow Z.n_InvalidRow (lk1 _ _)) (ea_cons (ev_xob (ev_err (ea_cons (ev_var rfl) ea_nil)) Z.x_InvalidLine Z.n_InvalidLine (lk1 _ _)) ea_nil))) (Nat.le_of_ble_eq_true rfl)) (Nat.le_of_ble_eq_true rfl) fun p4 np4 => ?_)
  have s4 : ∀ o, Sub h (put _ p4 o) := fun o z y e => sub_put np4 z y (s3 _ z y e)
  refine set_go (add_ref (p := p4) rfl put_same (ev_lstT (ea_cons (ev_xob (ev_err (ea_cons (ev_var rfl) ea_nil)) Z.x_NothingLeft Z.n_NothingLeft (lk1 _ _)) (ea_cons (ev_xob (ev_err (ea_cons (ev_var rfl) ea_nil)) Z.x_InvalidCommand Z.n_InvalidCommand (lk1 _ _)) (ea_cons (ev_xob (ev_err (ea_cons (ev_var rfl) ea_nil)) Z.x_InvalidSizes Z.n_InvalidSizes (lk1 _ _)) ea_nil))) (Nat.le_of_ble_eq_true rfl)) (Nat.le_of_ble_eq_true rfl) fun p5 np5 => ?_)
  have s5 : ∀ o, Sub h (put _ p5 o) := fun o z y e => sub_put np5 z y (s4 _ z y e)
  refine set_go (add_ref (p := p5) rfl put_same (ev_lstT (ea_cons (ev_xob (ev_err (ea_cons (ev_var rfl) ea_nil)) Z.x_InvalidState Z.n_InvalidState (lk1 _ _)) (ea_cons (ev_xob (ev_err (ea_cons (ev_var rfl) ea_nil)) Z.x_InvalidTable Z.n_InvalidTable (lk1 _ _)) (ea_cons (ev_xob (ev_err (ea_cons (ev_var rfl) ea_nil)) Z.x_NotClosed Z.n_NotClosed (lk1 _ _)) ea_nil))) (Nat.le_of_ble_eq_true rfl)) (Nat.le_of_ble_eq_true rfl) fun p6 np6 => ?_)
  have s6 : ∀ o, Sub h (put _ p6 o) := fun o z y e => sub_put np6 z y (s5 _ z y e)
  refine set_go (add_ref (p := p6) rfl put_same (ev_lstT (ea_cons (ev_xob (ev_err (ea_cons (ev_var rfl) ea_nil)) Z.x_Refusable Z.n_Refusable (lk1 _ _)) (ea_cons (ev_xob (ev_err (ea_cons (ev_var rfl) ea_nil)) Z.x_InvalidChoice Z.n_InvalidChoice (lk1 _ _)) (ea_cons (ev_xob (ev_err (ea_cons (ev_var rfl) ea_nil)) Z.x_UnknownSet Z.n_UnknownSet (lk1 _ _)) ea_nil))) (Nat.le_of_ble_eq_true rfl)) (Nat.le_of_ble_eq_true rfl) fun p7 np7 => ?_)
  have s7 : ∀ o, Sub h (put _ p7 o) := fun o z y e => sub_put np7 z y (s6 _ z y e)
  refine set_go (add_ref (p := p7) rfl put_same (ev_lstT (ea_cons (ev_xob (ev_err (ea_cons (ev_var rfl) ea_nil)) Z.x_TooMany Z.n_TooMany (lk1 _ _)) (ea_cons (ev_xob (ev_err2K (ea_cons ev_c (ea_cons (ev_var rfl) ea_nil))) Z.x_Refused Z.n_Refused rfl) ea_nil)) (Nat.le_of_ble_eq_true rfl)) (Nat.le_of_ble_eq_true rfl) fun p8 np8 => ?_)
  have s8 : ∀ o, Sub h (put _ p8 o) := fun o z y e => sub_put np8 z y (s7 _ z y e)
  refine drop_go (app_go (p := p8) rfl put_same (Nat.le_of_ble_eq_true rfl) (ev_xob (ev_err2K (ea_cons ev_c (ea_cons (ev_var rfl) ea_nil))) Z.x_NotDone Z.n_NotDone rfl) ?_)
  rw [put_put]
  refine ret_go (add_ref (p := p8) rfl put_same (ev_lstT (ea_cons (ev_xob (ev_err2 (ea_cons ev_c (ea_cons (ev_var rfl) ea_nil))) Z.x_Refused Z.n2_Refused rfl) ea_nil) (Nat.le_of_ble_eq_true rfl)) (Nat.le_of_ble_eq_true rfl) fun p np => ?_)
  have sb := s8 (.lst (List.replicate 27 t))
  have nh : h p = none := by
    cases e : h p with
    | none => rfl
    | some o => exact absurd ((sb p o e).symm.trans np) (fun z => nomatch z)
  exact ⟨put h p (.lst (List.replicate 28 t)), fun z y e => by
    by_cases c : z = p
    · subst c
      rw [put_same] at e
      cases e
      exact put_same
    · rw [put_ne c] at e
      rw [put_ne c]
      exact sb z y e, q p nh⟩
theorem same_held {t : T} (n : Nat) (k : sameOk t) : ∀ x ∈ List.replicate n t, sameOk x := fun x m => by rw [(List.mem_replicate.mp m).2]; exact k
end
end
end TL

set_option maxHeartbeats 4000000
namespace TL
open PySem L2
section
variable {K : PySem.W.Frag} {mg : Str → Option Value} {a : Ad}
theorem disp1 {k : Str} {i : Int} {s : Sl} {h : Hq} {E : EX} {Q : TK} (q : ∀ p, h p = none → Q (.ref p) (put h p (.dK [(.inr k, .int i)]))) : eDisp [((eC (.str k)), (eC (.int i)))] s h Q E := fun p np => by
  refine ⟨put_same, [(.inr k, .int i)], rfl, (by decide : (1 : Nat) ≤ 15), ?_⟩
  rw [put_put]
  exact q p np
theorem g2_32 {i j : Nat} {x y : T} {s : Sl} {h : Hq} {Q : SK} {E : EX} (q : Q ((s.set i (some x)).set j (some y)) h) : gTup 2 (gCons (gN i) (gCons (gN j) gNil)) (.tup [x, y]) s h Q E := ⟨rfl, rfl, q⟩
theorem enum_at32 {ts : List T} {i : Nat} {t : T} (e : (enumT ts)[i]? = some t) : ∃ y, ts[i]? = some y ∧ t = .tup [.int i, y] := by
  unfold enumT at e
  rw [List.getElem?_mapIdx] at e
  cases c : ts[i]? with
  | none => rw [c] at e; cases e
  | some y => rw [c] at e; cases e; exact ⟨y, rfl, rfl⟩
theorem same_dat {n : Nat} {t : T} (h : dat n t = true) (hn : n ≤ 60 := by decide) : sameOk t := by
  obtain ⟨d, e, l⟩ := dat_toD n t h
  have z := eqT_self n t h
  unfold eqT at z
  rw [e] at z
  exact .inr ⟨d, e, by omega, z⟩
theorem held_ok (p : Addr) : ∀ t ∈ ([.non, .int 5, .str "a", .tup [.str "a", .int 1], .lst [.str "a"], .ref p, .int (10 ^ 30), .int 0, .str ""] : List T), sameOk t := fun t m => by
  simp only [List.mem_cons, List.not_mem_nil, or_false] at m
  rcases m with rfl | rfl | rfl | rfl | rfl | rfl | rfl | rfl | rfl
  all_goals first
    | exact .inl ⟨_, rfl⟩
    | exact same_dat (n := 3) (by decide +kernel)
theorem cls_dat (m : Nat) : dat 3 (.lst (clsL m)) = true := by
  unfold dat clsL
  exact List.all_eq_true.mpr fun x hx => by
    obtain ⟨j, _, rfl⟩ := List.mem_map.mp hx
    rfl
theorem cls_eq {x0 x1 x2 x3 x4 x5 x7 x8 : Option T} {h : Hq} {E : EX} {m : Nat} : Ev [x0, x1, x2, x3, x4, x5, some (.int m), x7, x8] h E (eLc true (iRange1 (aCons (eC (.int 27)) aNil)) (cN 8 [8]) tYes (eOp oEq (eVar 6) (eVar 8))) (.lst (clsL m)) := by
  refine ev_lcM (enc := fun j : Nat => T.int j) (xs := List.range 27) (f := fun j : Nat => .bl (decide (m = j))) (Eq1.ei fun R r => eq_rng (n := 27) ev_c (by decide) R (by unfold rng; simp only [Int.zero_add]; exact r)) (by rw [List.length_range]; decide) fun j hj => ⟨_, rfl, ev_as (ev_eqI (ev_var rfl) (ev_var rfl)) ?_⟩
  congr 1
  exact decide_eq_decide.mpr Int.ofNat_inj
theorem obj_at {a : Ad} {t u y : T} {m : Nat} (e : (objL a t u)[m]? = some y) : m < 27 ∧ y = .xob (clA a m) (fsA t u m) := by
  unfold objL at e
  have lt : m < 27 := by
    have := (List.getElem?_eq_some_iff.mp e).1
    simpa using this
  rw [List.getElem?_map, List.getElem?_range lt] at e
  exact ⟨lt, (Option.some.inj e).symm⟩
theorem cls_ev {s : Sl} {h : Hq} {E : EX} {m : Nat} {gs : List (Str × T)} (h7 : s[7]? = some (some (.xob (clA a m) gs))) (lt : m < 27) : Ev s h E (eFrz (eCall 1 (C_law_classes a) (aCons (eVar 7) aNil))) (.lst (clsL m)) := fun R r => calls (ea_cons (ev_var h7) ea_nil) rfl ⟨m, _, rfl, lt, fun p np => frz_lst np r⟩
theorem pl_law (Z : Tx K mg a) : ∀ ts h Q E, ts.length = 1 → C_law ts h Q E → B_law K a (ends Q E) (startT N_law.length ts) h := by
  rintro ts h Q E - ⟨ns, rfl, hn, q⟩
  unfold B_law
  obtain ⟨mm, m8, em⟩ := cells_eq ns 6 (by decide) (by decide) (s := startT N_law.length [.scr ns]) (h := h) (E := (ends Q E).ex) (i := 0) rfl
  refine sfor_rng em (fun i s h' => ∃ x1 x2 x3 x4 x5 x6 x7 x8, s = [some (.scr ns), x1, x2, x3, x4, x5, x6, x7, x8]) ⟨_, _, _, _, _, _, _, _, rfl⟩ ?_ ?_
  · rintro s h' ⟨x1, x2, x3, x4, x5, x6, x7, x8, rfl⟩
    exact ret_ev ev_c (dn_self (q h'))
  · rintro i s h' hi ⟨x1, x2, x3, x4, x5, x6, x7, x8, rfl⟩
    refine set_go (hand_go rfl rfl (by omega) (by omega) hn fun p np => ?_)
    have hp : (put h' p .pool) p = some .pool := put_same
    generalize put h' p .pool = h1 at *
    refine for_rng (eq_rng (n := 4) ev_c (by decide)) (fun j s h2 => h2 p = some .pool ∧ ∃ x3 x4 x5 x6 x7 x8, s = [some (.scr ns), some (.int (0 + i)), some (.ref p), x3, x4, x5, x6, x7, x8]) ⟨hp, _, _, _, _, _, _, rfl⟩ ?_ ?_
    · rintro s h2 ⟨-, x3, x4, x5, x6, x7, x8, rfl⟩
      exact ⟨_, _, _, _, _, _, _, _, rfl⟩
    · rintro j s h2 hj ⟨hp, x3, x4, x5, x6, x7, x8, rfl⟩
      refine set_go (lstT_go (ac_ev ev_c (ac_ev ev_c (ac_ev ev_c (ac_ev ev_c (ac_ev ev_c (ac_any (disp1 fun d nd => ?_))))))))
      have hp3 : (put h2 d (.dK [(.inr "a", .int 1)])) p = some .pool := by rw [put_ne (fun z => by rw [z, nd] at hp; cases hp)]; exact hp
      clear hp
      generalize put h2 d (.dK [(.inr "a", .int 1)]) = h3 at *
      refine ac_ev ev_c (ac_ev ev_c (ac_ev ev_c ⟨Nat.le_of_ble_eq_true rfl, ?_⟩))
      refine set_go (pick_ev (ev_var rfl) rfl hp3 rfl (by decide) (by decide) fun t ht => ?_)
      have ok := held_ok d t ht
      clear ht
      have mul : ∀ {s : Sl} {E : EX}, s[5]? = some (some t) → Ev s h3 E (eOp (oMul true) (eLst true (aCons (eVar 5) aNil)) (eC (.int 28))) (.lst (List.replicate 28 t)) := fun hs => ev_op (ev_lstT (ea_cons (ev_var hs) ea_nil) (Nat.le_of_ble_eq_true rfl)) ev_c fun R r => ⟨by decide, by decide, Nat.le_of_ble_eq_true rfl, by rw [mk_true]; exact r⟩
      have ne : ∀ {s : Sl} {E : EX} {x : EM}, s[5]? = some (some t) → Ev s h3 E x (.lst (List.replicate 28 t)) → Ev s h3 E (eOp oNeS x (eOp (oMul true) (eLst true (aCons (eVar 5) aNil)) (eC (.int 28)))) (.bl false) := fun hs hx => ev_op hx (mul hs) fun R r => ⟨List.replicate 28 t, rfl, rfl, same_held 28 ok, r⟩
      refine sif_no (ef_or (ef_of (ne rfl fun R r => calls (ea_cons (ev_var rfl) ea_nil) rfl ⟨t, rfl, fun p np => frz_lst np r⟩)) (ef_of (ne rfl fun R r => calls (ea_cons (ev_var rfl) ea_nil) rfl ⟨t, rfl, fun p np => frz_lst np r⟩))) ?_
      refine for_src1 (ts := enumT (objL a t .non)) (fun R r => calls (ea_cons (ev_var rfl) (ea_cons ev_c ea_nil)) rfl ⟨t, .non, rfl, fun p np => frz_lst np r⟩) (forK_go (fun i s h' => h' = h3 ∧ ∃ x6 x7 x8, s = [_, _, _, _, _, some t, x6, x7, x8]) ⟨rfl, _, _, _, rfl⟩ ?_ ?_)
      · rintro s h' ⟨rfl, x6, x7, x8, rfl⟩
        exact ⟨trivial, hp3, _, _, _, _, _, _, rfl⟩
      · rintro m y s h' e ⟨rfl, x6, x7, x8, rfl⟩
        obtain ⟨y, e2, rfl⟩ := enum_at32 e
        obtain ⟨lt, ey⟩ := obj_at e2
        subst ey
        refine ⟨trivial, g2_32 ?_⟩
        refine sif_no (ef_of (ev_selfN (n := 3) (t := .lst (clsL m)) (cls_ev rfl lt) cls_eq (cls_dat m))) ?_
        exact if_to (b := false) (ef_or (ef_as (ef_not (ef_tru (ev_isX (ev_var rfl) (kq_all Z m lt) (kg_all Z m lt)))) rfl) (ef_as (ef_not (ef_tru (ev_isXT (ev_var rfl) (kq_all Z m lt) (kv_all Z m lt)))) rfl)) (fun z => nomatch z) fun _ => ⟨rfl, _, _, _, rfl⟩
end
end TL

set_option maxHeartbeats 4000000
namespace TL
open PySem L2
section
variable {P : Program} {w : World} {K : PySem.W.Frag} {mg : Str → Option Value} {base : Heap} {a : Ad}
theorem sci_TooMany : FnScope ["self", "number"] ["self", "number"] (defScope si_TooMany) := ⟨rfl, rfl, rfl, by decide +kernel, rfl, by decide +kernel, by decide +kernel⟩
theorem okI_TooMany (T : Tx K mg a) : FnOk P w K mg base (L2.CX P w) 1 a.i_TooMany a.e_TooMany ["self", "number"] (spInit a.c_TooMany "number") := init_ok T.FI_TooMany sci_TooMany T.o_TooMany T.n_TooMany rfl (Or.inl rfl) (Or.inl rfl) (by decide) (by decide) (fun _ _ => rfl)
theorem sci_Refused : FnScope ["self", "name", "need"] ["self", "name", "need"] (defScope si_Refused) := ⟨rfl, rfl, rfl, by decide +kernel, rfl, by decide +kernel, by decide +kernel⟩
theorem okI_Refused (T : Tx K mg a) : FnOk P w K mg base (L2.CX P w) 1 a.i_Refused a.e_Refused ["self", "name", "need"] (spInit2 a.c_Refused "name" "need") := init_ok2 T.FI_Refused sci_Refused T.o_Refused T.n_Refused T.n2_Refused rfl (Or.inl rfl) (Or.inl rfl) (Or.inl rfl) (by decide) (by decide) (by decide) (by decide) (fun _ _ => rfl) (fun _ _ => rfl)
theorem sci_NotDone : FnScope ["self", "number", "error"] ["self", "number", "error"] (defScope si_NotDone) := ⟨rfl, rfl, rfl, by decide +kernel, rfl, by decide +kernel, by decide +kernel⟩
theorem okI_NotDone (T : Tx K mg a) : FnOk P w K mg base (L2.CX P w) 1 a.i_NotDone a.e_NotDone ["self", "number", "error"] (spInit2 a.c_NotDone "number" "error") := init_ok2 T.FI_NotDone sci_NotDone T.o_NotDone T.n_NotDone T.n2_NotDone rfl (Or.inl rfl) (Or.inl rfl) (Or.inl rfl) (by decide) (by decide) (by decide) (by decide) (fun _ _ => rfl) (fun _ _ => rfl)
theorem sci_NotClosed : FnScope ["self", "number"] ["self", "number"] (defScope si_NotClosed) := ⟨rfl, rfl, rfl, by decide +kernel, rfl, by decide +kernel, by decide +kernel⟩
theorem okI_NotClosed (T : Tx K mg a) : FnOk P w K mg base (L2.CX P w) 1 a.i_NotClosed a.e_NotClosed ["self", "number"] (spInit a.c_NotClosed "number") := init_ok T.FI_NotClosed sci_NotClosed T.o_NotClosed T.n_NotClosed rfl (Or.inl rfl) (Or.inl rfl) (by decide) (by decide) (fun _ _ => rfl)
theorem sci_Refusable : FnScope ["self", "row"] ["self", "row"] (defScope si_Refusable) := ⟨rfl, rfl, rfl, by decide +kernel, rfl, by decide +kernel, by decide +kernel⟩
theorem okI_Refusable (T : Tx K mg a) : FnOk P w K mg base (L2.CX P w) 1 a.i_Refusable a.e_Refusable ["self", "row"] (spInit a.c_Refusable "row") := init_ok T.FI_Refusable sci_Refusable T.o_Refusable T.n_Refusable rfl (Or.inl rfl) (Or.inl rfl) (by decide) (by decide) (fun _ _ => rfl)
theorem sci_InvalidChoice : FnScope ["self", "number"] ["self", "number"] (defScope si_InvalidChoice) := ⟨rfl, rfl, rfl, by decide +kernel, rfl, by decide +kernel, by decide +kernel⟩
theorem okI_InvalidChoice (T : Tx K mg a) : FnOk P w K mg base (L2.CX P w) 1 a.i_InvalidChoice a.e_InvalidChoice ["self", "number"] (spInit a.c_InvalidChoice "number") := init_ok T.FI_InvalidChoice sci_InvalidChoice T.o_InvalidChoice T.n_InvalidChoice rfl (Or.inl rfl) (Or.inl rfl) (by decide) (by decide) (fun _ _ => rfl)
theorem sci_UnknownSet : FnScope ["self", "picks"] ["self", "picks"] (defScope si_UnknownSet) := ⟨rfl, rfl, rfl, by decide +kernel, rfl, by decide +kernel, by decide +kernel⟩
theorem okI_UnknownSet (T : Tx K mg a) : FnOk P w K mg base (L2.CX P w) 1 a.i_UnknownSet a.e_UnknownSet ["self", "picks"] (spInit a.c_UnknownSet "picks") := init_ok T.FI_UnknownSet sci_UnknownSet T.o_UnknownSet T.n_UnknownSet rfl (Or.inl rfl) (Or.inl rfl) (by decide) (by decide) (fun _ _ => rfl)
theorem sci_InvalidCommand : FnScope ["self", "row"] ["self", "row"] (defScope si_InvalidCommand) := ⟨rfl, rfl, rfl, by decide +kernel, rfl, by decide +kernel, by decide +kernel⟩
theorem okI_InvalidCommand (T : Tx K mg a) : FnOk P w K mg base (L2.CX P w) 1 a.i_InvalidCommand a.e_InvalidCommand ["self", "row"] (spInit a.c_InvalidCommand "row") := init_ok T.FI_InvalidCommand sci_InvalidCommand T.o_InvalidCommand T.n_InvalidCommand rfl (Or.inl rfl) (Or.inl rfl) (by decide) (by decide) (fun _ _ => rfl)
theorem sci_InvalidSizes : FnScope ["self", "number"] ["self", "number"] (defScope si_InvalidSizes) := ⟨rfl, rfl, rfl, by decide +kernel, rfl, by decide +kernel, by decide +kernel⟩
theorem okI_InvalidSizes (T : Tx K mg a) : FnOk P w K mg base (L2.CX P w) 1 a.i_InvalidSizes a.e_InvalidSizes ["self", "number"] (spInit a.c_InvalidSizes "number") := init_ok T.FI_InvalidSizes sci_InvalidSizes T.o_InvalidSizes T.n_InvalidSizes rfl (Or.inl rfl) (Or.inl rfl) (by decide) (by decide) (fun _ _ => rfl)
theorem sci_InvalidState : FnScope ["self", "state"] ["self", "state"] (defScope si_InvalidState) := ⟨rfl, rfl, rfl, by decide +kernel, rfl, by decide +kernel, by decide +kernel⟩
theorem okI_InvalidState (T : Tx K mg a) : FnOk P w K mg base (L2.CX P w) 1 a.i_InvalidState a.e_InvalidState ["self", "state"] (spInit a.c_InvalidState "state") := init_ok T.FI_InvalidState sci_InvalidState T.o_InvalidState T.n_InvalidState rfl (Or.inl rfl) (Or.inl rfl) (by decide) (by decide) (fun _ _ => rfl)
theorem sci_InvalidTable : FnScope ["self", "thing"] ["self", "thing"] (defScope si_InvalidTable) := ⟨rfl, rfl, rfl, by decide +kernel, rfl, by decide +kernel, by decide +kernel⟩
theorem okI_InvalidTable (T : Tx K mg a) : FnOk P w K mg base (L2.CX P w) 1 a.i_InvalidTable a.e_InvalidTable ["self", "thing"] (spInit a.c_InvalidTable "thing") := init_ok T.FI_InvalidTable sci_InvalidTable T.o_InvalidTable T.n_InvalidTable rfl (Or.inl rfl) (Or.inl rfl) (by decide) (by decide) (fun _ _ => rfl)
theorem sci_InvalidEvent : FnScope ["self", "event"] ["self", "event"] (defScope si_InvalidEvent) := ⟨rfl, rfl, rfl, by decide +kernel, rfl, by decide +kernel, by decide +kernel⟩
theorem okI_InvalidEvent (T : Tx K mg a) : FnOk P w K mg base (L2.CX P w) 1 a.i_InvalidEvent a.e_InvalidEvent ["self", "event"] (spInit a.c_InvalidEvent "event") := init_ok T.FI_InvalidEvent sci_InvalidEvent T.o_InvalidEvent T.n_InvalidEvent rfl (Or.inl rfl) (Or.inl rfl) (by decide) (by decide) (fun _ _ => rfl)
theorem sci_InvalidRow : FnScope ["self", "number"] ["self", "number"] (defScope si_InvalidRow) := ⟨rfl, rfl, rfl, by decide +kernel, rfl, by decide +kernel, by decide +kernel⟩
theorem okI_InvalidRow (T : Tx K mg a) : FnOk P w K mg base (L2.CX P w) 1 a.i_InvalidRow a.e_InvalidRow ["self", "number"] (spInit a.c_InvalidRow "number") := init_ok T.FI_InvalidRow sci_InvalidRow T.o_InvalidRow T.n_InvalidRow rfl (Or.inl rfl) (Or.inl rfl) (by decide) (by decide) (fun _ _ => rfl)
theorem sci_InvalidLine : FnScope ["self", "number"] ["self", "number"] (defScope si_InvalidLine) := ⟨rfl, rfl, rfl, by decide +kernel, rfl, by decide +kernel, by decide +kernel⟩
theorem okI_InvalidLine (T : Tx K mg a) : FnOk P w K mg base (L2.CX P w) 1 a.i_InvalidLine a.e_InvalidLine ["self", "number"] (spInit a.c_InvalidLine "number") := init_ok T.FI_InvalidLine sci_InvalidLine T.o_InvalidLine T.n_InvalidLine rfl (Or.inl rfl) (Or.inl rfl) (by decide) (by decide) (fun _ _ => rfl)
theorem sci_NothingLeft : FnScope ["self", "many"] ["self", "many"] (defScope si_NothingLeft) := ⟨rfl, rfl, rfl, by decide +kernel, rfl, by decide +kernel, by decide +kernel⟩
theorem okI_NothingLeft (T : Tx K mg a) : FnOk P w K mg base (L2.CX P w) 1 a.i_NothingLeft a.e_NothingLeft ["self", "many"] (spInit a.c_NothingLeft "many") := init_ok T.FI_NothingLeft sci_NothingLeft T.o_NothingLeft T.n_NothingLeft rfl (Or.inl rfl) (Or.inl rfl) (by decide) (by decide) (fun _ _ => rfl)
theorem sci_KnownName : FnScope ["self", "name"] ["self", "name"] (defScope si_KnownName) := ⟨rfl, rfl, rfl, by decide +kernel, rfl, by decide +kernel, by decide +kernel⟩
theorem okI_KnownName (T : Tx K mg a) : FnOk P w K mg base (L2.CX P w) 1 a.i_KnownName a.e_KnownName ["self", "name"] (spInit a.c_KnownName "name") := init_ok T.FI_KnownName sci_KnownName T.o_KnownName T.n_KnownName rfl (Or.inl rfl) (Or.inl rfl) (by decide) (by decide) (fun _ _ => rfl)
theorem sci_UnknownName : FnScope ["self", "name"] ["self", "name"] (defScope si_UnknownName) := ⟨rfl, rfl, rfl, by decide +kernel, rfl, by decide +kernel, by decide +kernel⟩
theorem okI_UnknownName (T : Tx K mg a) : FnOk P w K mg base (L2.CX P w) 1 a.i_UnknownName a.e_UnknownName ["self", "name"] (spInit a.c_UnknownName "name") := init_ok T.FI_UnknownName sci_UnknownName T.o_UnknownName T.n_UnknownName rfl (Or.inl rfl) (Or.inl rfl) (by decide) (by decide) (fun _ _ => rfl)
theorem sci_Closed : FnScope ["self", "name"] ["self", "name"] (defScope si_Closed) := ⟨rfl, rfl, rfl, by decide +kernel, rfl, by decide +kernel, by decide +kernel⟩
theorem okI_Closed (T : Tx K mg a) : FnOk P w K mg base (L2.CX P w) 1 a.i_Closed a.e_Closed ["self", "name"] (spInit a.c_Closed "name") := init_ok T.FI_Closed sci_Closed T.o_Closed T.n_Closed rfl (Or.inl rfl) (Or.inl rfl) (by decide) (by decide) (fun _ _ => rfl)
theorem sci_Opened : FnScope ["self", "name"] ["self", "name"] (defScope si_Opened) := ⟨rfl, rfl, rfl, by decide +kernel, rfl, by decide +kernel, by decide +kernel⟩
theorem okI_Opened (T : Tx K mg a) : FnOk P w K mg base (L2.CX P w) 1 a.i_Opened a.e_Opened ["self", "name"] (spInit a.c_Opened "name") := init_ok T.FI_Opened sci_Opened T.o_Opened T.n_Opened rfl (Or.inl rfl) (Or.inl rfl) (by decide) (by decide) (fun _ _ => rfl)
theorem sci_InvalidNumber : FnScope ["self", "number"] ["self", "number"] (defScope si_InvalidNumber) := ⟨rfl, rfl, rfl, by decide +kernel, rfl, by decide +kernel, by decide +kernel⟩
theorem okI_InvalidNumber (T : Tx K mg a) : FnOk P w K mg base (L2.CX P w) 1 a.i_InvalidNumber a.e_InvalidNumber ["self", "number"] (spInit a.c_InvalidNumber "number") := init_ok T.FI_InvalidNumber sci_InvalidNumber T.o_InvalidNumber T.n_InvalidNumber rfl (Or.inl rfl) (Or.inl rfl) (by decide) (by decide) (fun _ _ => rfl)
theorem sci_InvalidRule : FnScope ["self", "rule"] ["self", "rule"] (defScope si_InvalidRule) := ⟨rfl, rfl, rfl, by decide +kernel, rfl, by decide +kernel, by decide +kernel⟩
theorem okI_InvalidRule (T : Tx K mg a) : FnOk P w K mg base (L2.CX P w) 1 a.i_InvalidRule a.e_InvalidRule ["self", "rule"] (spInit a.c_InvalidRule "rule") := init_ok T.FI_InvalidRule sci_InvalidRule T.o_InvalidRule T.n_InvalidRule rfl (Or.inl rfl) (Or.inl rfl) (by decide) (by decide) (fun _ _ => rfl)
theorem sci_InvalidDisk : FnScope ["self", "part"] ["self", "part"] (defScope si_InvalidDisk) := ⟨rfl, rfl, rfl, by decide +kernel, rfl, by decide +kernel, by decide +kernel⟩
theorem okI_InvalidDisk (T : Tx K mg a) : FnOk P w K mg base (L2.CX P w) 1 a.i_InvalidDisk a.e_InvalidDisk ["self", "part"] (spInit a.c_InvalidDisk "part") := init_ok T.FI_InvalidDisk sci_InvalidDisk T.o_InvalidDisk T.n_InvalidDisk rfl (Or.inl rfl) (Or.inl rfl) (by decide) (by decide) (fun _ _ => rfl)
theorem sci_InvalidName : FnScope ["self", "name"] ["self", "name"] (defScope si_InvalidName) := ⟨rfl, rfl, rfl, by decide +kernel, rfl, by decide +kernel, by decide +kernel⟩
theorem okI_InvalidName (T : Tx K mg a) : FnOk P w K mg base (L2.CX P w) 1 a.i_InvalidName a.e_InvalidName ["self", "name"] (spInit a.c_InvalidName "name") := init_ok T.FI_InvalidName sci_InvalidName T.o_InvalidName T.n_InvalidName rfl (Or.inl rfl) (Or.inl rfl) (by decide) (by decide) (fun _ _ => rfl)
theorem sci_InvalidRuns : FnScope ["self", "number"] ["self", "number"] (defScope si_InvalidRuns) := ⟨rfl, rfl, rfl, by decide +kernel, rfl, by decide +kernel, by decide +kernel⟩
theorem okI_InvalidRuns (T : Tx K mg a) : FnOk P w K mg base (L2.CX P w) 1 a.i_InvalidRuns a.e_InvalidRuns ["self", "number"] (spInit a.c_InvalidRuns "number") := init_ok T.FI_InvalidRuns sci_InvalidRuns T.o_InvalidRuns T.n_InvalidRuns rfl (Or.inl rfl) (Or.inl rfl) (by decide) (by decide) (fun _ _ => rfl)
theorem sci_InvalidBlock : FnScope ["self", "block"] ["self", "block"] (defScope si_InvalidBlock) := ⟨rfl, rfl, rfl, by decide +kernel, rfl, by decide +kernel, by decide +kernel⟩
theorem okI_InvalidBlock (T : Tx K mg a) : FnOk P w K mg base (L2.CX P w) 1 a.i_InvalidBlock a.e_InvalidBlock ["self", "block"] (spInit a.c_InvalidBlock "block") := init_ok T.FI_InvalidBlock sci_InvalidBlock T.o_InvalidBlock T.n_InvalidBlock rfl (Or.inl rfl) (Or.inl rfl) (by decide) (by decide) (fun _ _ => rfl)
theorem sci_InvalidText : FnScope ["self", "text"] ["self", "text"] (defScope si_InvalidText) := ⟨rfl, rfl, rfl, by decide +kernel, rfl, by decide +kernel, by decide +kernel⟩
theorem okI_InvalidText (T : Tx K mg a) : FnOk P w K mg base (L2.CX P w) 1 a.i_InvalidText a.e_InvalidText ["self", "text"] (spInit a.c_InvalidText "text") := init_ok T.FI_InvalidText sci_InvalidText T.o_InvalidText T.n_InvalidText rfl (Or.inl rfl) (Or.inl rfl) (by decide) (by decide) (fun _ _ => rfl)
theorem sci_InvalidBook : FnScope ["self", "part"] ["self", "part"] (defScope si_InvalidBook) := ⟨rfl, rfl, rfl, by decide +kernel, rfl, by decide +kernel, by decide +kernel⟩
theorem okI_InvalidBook (T : Tx K mg a) : FnOk P w K mg base (L2.CX P w) 1 a.i_InvalidBook a.e_InvalidBook ["self", "part"] (spInit a.c_InvalidBook "part") := init_ok T.FI_InvalidBook sci_InvalidBook T.o_InvalidBook T.n_InvalidBook rfl (Or.inl rfl) (Or.inl rfl) (by decide) (by decide) (fun _ _ => rfl)
theorem sc_law_hand : FnScope N_law_hand ["_law_script", "_law_k"] (defScope s_law_hand) := ⟨rfl, rfl, rfl, by decide +kernel, rfl, by decide +kernel, by decide +kernel⟩
theorem ok_law_hand (T : Tx K mg a) : FnOk P w K mg base (L2N.CX P w) 1 a.f_law_hand a.d_law_hand ["_law_script", "_law_k"] (liftSp K 2 CHand) := by
  refine fn_wk (fn_ok T.F_law_hand sc_law_hand (by decide) (fun cdv A outer s H E hr => ?_) pl_law_hand) hand_wk
  have tk : L2N.Takes (cxOf (L2N.CX P w) P w K mg base N_law_hand "_law_hand" (defScope s_law_hand) a.f_law_hand cdv A outer s H E) (fun cls d _ H => E cls d H) := L2N.takes_of rfl rfl rfl rfl
  exact (jss_cons (js_set (i := 2) sc_law_hand.nd rfl (by first | exact Or.inl rfl | exact Or.inr rfl) (j_ix (j_op o_add (p_add true) (j_sl true (j_var 0) (jo_some (j_var 1)) (jo_some (j_op o_add (p_add true) (j_var 1) j_int))) (j_pure (t := .lst [.int 0]) (j_lst true (ja_cons j_int ja_nil)) (pu_lst (pa_c pu_c pa_n) (by decide)))) j_int))
    (jss_cons (js_set (i := 3) sc_law_hand.nd rfl (by first | exact Or.inl rfl | exact Or.inr rfl) (j_op op_mod p_mod (j_op o_mul (p_mul true) (j_op o_add (p_add true) (j_op o_add (p_add true) (j_op op_mod p_mod (j_cty call_int1 c_int rfl T.z_int (by decide +kernel) (ja_cons (j_var 2) ja_nil)) j_int) (j_op o_mul (p_mul true) j_int (j_var 1))) j_int) j_int) j_int))
    (jss_one (js_ret (j_lst false (ja_cons (j_op o_mul (p_mul true) (j_cty call_int1 c_int rfl T.z_int (by decide +kernel) (ja_cons (j_cmp op_ge p_ge (j_var 2) (j_pure (t := .int (10 ^ 18)) (j_op op_pow p_pow j_int j_int) (pu_pow pu_c pu_c (by decide))) (nomark _)) ja_nil)) (j_var 2)) (ja_cons (j_var 3) ja_nil)))))))
theorem sc_law_draw : FnScope N_law_draw ["_law_pool", "_law_limit"] (defScope s_law_draw) := ⟨rfl, rfl, rfl, by decide +kernel, rfl, by decide +kernel, by decide +kernel⟩
theorem ok_law_draw (T : Tx K mg a) : FnOk P w K mg base (L2N.CX P w) 1 a.f_law_draw a.d_law_draw ["_law_pool", "_law_limit"] (liftSp K 2 CDraw) := by
  refine fn_wk (fn_ok T.F_law_draw sc_law_draw (by decide) (fun cdv A outer s H E hr => ?_) pl_law_draw) draw_wk
  have tk : L2N.Takes (cxOf (L2N.CX P w) P w K mg base N_law_draw "_law_draw" (defScope s_law_draw) a.f_law_draw cdv A outer s H E) (fun cls d _ H => E cls d H) := L2N.takes_of rfl rfl rfl rfl
  exact (jss_cons (js_if (jt_cmp op_gt p_gt (j_ix (j_var 0) j_int) j_int (nomark _)) (jss_cons (js_set (i := 2) sc_law_draw.nd rfl (by first | exact Or.inl rfl | exact Or.inr rfl) (j_op op_mod p_mod (j_cty call_int1 c_int rfl T.z_int (by decide +kernel) (ja_cons (j_ix (j_var 0) j_int) ja_nil)) (j_var 1)))
    (jss_cons (js_asg (j_op op_fdivW p_div (j_ix (j_var 0) j_int) (j_var 1)) (jg_sub (j_var 0) j_int))
    (jss_one (js_ret (j_var 2))))) jss_nil)
    (jss_cons (js_asg (j_op op_mod p_mod (j_cty call_int1 c_int rfl T.z_int (by decide +kernel) (ja_cons (j_op o_add (p_add true) (j_op o_mul (p_mul true) (j_ix (j_var 0) j_int) j_int) j_int) ja_nil)) j_int) (jg_sub (j_var 0) j_int))
    (jss_one (js_ret (j_op op_mod p_mod (j_op op_fdivW p_div (j_op op_mod p_mod (j_cty call_int1 c_int rfl T.z_int (by decide +kernel) (ja_cons (j_op o_mul (p_mul true) (j_ix (j_var 0) j_int) (j_ix (j_var 0) j_int)) ja_nil)) j_int) j_int) (j_var 1))))))
theorem sc_law_classes : FnScope N_law_classes ["_law_one"] (defScope s_law_classes) := ⟨rfl, rfl, rfl, by decide +kernel, rfl, by decide +kernel, by decide +kernel⟩
theorem ok_law_classes (T : Tx K mg a) : FnOk P w K mg base (L2N.CX P w) 1 a.f_law_classes a.d_law_classes ["_law_one"] (liftSp K 1 (C_law_classes a)) := by
  refine fn_ok T.F_law_classes sc_law_classes (by decide) (fun cdv A outer s H E hr => ?_) (pl_law_classes T)
  have tk : L2N.Takes (cxOf (L2N.CX P w) P w K mg base N_law_classes "_law_classes" (defScope s_law_classes) a.f_law_classes cdv A outer s H E) (fun cls d _ H => E cls d H) := L2N.takes_of rfl rfl rfl rfl
  exact (jss_cons (js_set (i := 1) sc_law_classes.nd rfl (by first | exact Or.inl rfl | exact Or.inr rfl) (j_lst true (ja_cons (j_cb call_isX c_isX rfl T.z_isinstance (by decide +kernel) (ja_cons (j_var 0) (ja_cons (j_globR rfl T.g_InvalidRuns) ja_nil))) (ja_cons (j_cb call_isX c_isX rfl T.z_isinstance (by decide +kernel) (ja_cons (j_var 0) (ja_cons (j_globR rfl T.g_InvalidBlock) ja_nil))) (ja_cons (j_cb call_isX c_isX rfl T.z_isinstance (by decide +kernel) (ja_cons (j_var 0) (ja_cons (j_globR rfl T.g_InvalidText) ja_nil))) ja_nil)))))
    (jss_cons (js_set (i := 1) sc_law_classes.nd rfl (by first | exact Or.inl rfl | exact Or.inr rfl) (j_op o_add (p_add true) (j_var 1) (j_lst true (ja_cons (j_cb call_isX c_isX rfl T.z_isinstance (by decide +kernel) (ja_cons (j_var 0) (ja_cons (j_globR rfl T.g_InvalidBook) ja_nil))) (ja_cons (j_cb call_isX c_isX rfl T.z_isinstance (by decide +kernel) (ja_cons (j_var 0) (ja_cons (j_globR rfl T.g_InvalidNumber) ja_nil))) (ja_cons (j_cb call_isX c_isX rfl T.z_isinstance (by decide +kernel) (ja_cons (j_var 0) (ja_cons (j_globR rfl T.g_InvalidRule) ja_nil))) ja_nil))))))
    (jss_cons (js_set (i := 1) sc_law_classes.nd rfl (by first | exact Or.inl rfl | exact Or.inr rfl) (j_op o_add (p_add true) (j_var 1) (j_lst true (ja_cons (j_cb call_isX c_isX rfl T.z_isinstance (by decide +kernel) (ja_cons (j_var 0) (ja_cons (j_globR rfl T.g_InvalidDisk) ja_nil))) (ja_cons (j_cb call_isX c_isX rfl T.z_isinstance (by decide +kernel) (ja_cons (j_var 0) (ja_cons (j_globR rfl T.g_InvalidName) ja_nil))) (ja_cons (j_cb call_isX c_isX rfl T.z_isinstance (by decide +kernel) (ja_cons (j_var 0) (ja_cons (j_globR rfl T.g_KnownName) ja_nil))) ja_nil))))))
    (jss_cons (js_set (i := 1) sc_law_classes.nd rfl (by first | exact Or.inl rfl | exact Or.inr rfl) (j_op o_add (p_add true) (j_var 1) (j_lst true (ja_cons (j_cb call_isX c_isX rfl T.z_isinstance (by decide +kernel) (ja_cons (j_var 0) (ja_cons (j_globR rfl T.g_UnknownName) ja_nil))) (ja_cons (j_cb call_isX c_isX rfl T.z_isinstance (by decide +kernel) (ja_cons (j_var 0) (ja_cons (j_globR rfl T.g_Closed) ja_nil))) (ja_cons (j_cb call_isX c_isX rfl T.z_isinstance (by decide +kernel) (ja_cons (j_var 0) (ja_cons (j_globR rfl T.g_Opened) ja_nil))) ja_nil))))))
    (jss_cons (js_set (i := 1) sc_law_classes.nd rfl (by first | exact Or.inl rfl | exact Or.inr rfl) (j_op o_add (p_add true) (j_var 1) (j_lst true (ja_cons (j_cb call_isX c_isX rfl T.z_isinstance (by decide +kernel) (ja_cons (j_var 0) (ja_cons (j_globR rfl T.g_InvalidEvent) ja_nil))) (ja_cons (j_cb call_isX c_isX rfl T.z_isinstance (by decide +kernel) (ja_cons (j_var 0) (ja_cons (j_globR rfl T.g_InvalidRow) ja_nil))) (ja_cons (j_cb call_isX c_isX rfl T.z_isinstance (by decide +kernel) (ja_cons (j_var 0) (ja_cons (j_globR rfl T.g_InvalidLine) ja_nil))) ja_nil))))))
    (jss_cons (js_set (i := 1) sc_law_classes.nd rfl (by first | exact Or.inl rfl | exact Or.inr rfl) (j_op o_add (p_add true) (j_var 1) (j_lst true (ja_cons (j_cb call_isX c_isX rfl T.z_isinstance (by decide +kernel) (ja_cons (j_var 0) (ja_cons (j_globR rfl T.g_NothingLeft) ja_nil))) (ja_cons (j_cb call_isX c_isX rfl T.z_isinstance (by decide +kernel) (ja_cons (j_var 0) (ja_cons (j_globR rfl T.g_InvalidCommand) ja_nil))) (ja_cons (j_cb call_isX c_isX rfl T.z_isinstance (by decide +kernel) (ja_cons (j_var 0) (ja_cons (j_globR rfl T.g_InvalidSizes) ja_nil))) ja_nil))))))
    (jss_cons (js_set (i := 1) sc_law_classes.nd rfl (by first | exact Or.inl rfl | exact Or.inr rfl) (j_op o_add (p_add true) (j_var 1) (j_lst true (ja_cons (j_cb call_isX c_isX rfl T.z_isinstance (by decide +kernel) (ja_cons (j_var 0) (ja_cons (j_globR rfl T.g_InvalidState) ja_nil))) (ja_cons (j_cb call_isX c_isX rfl T.z_isinstance (by decide +kernel) (ja_cons (j_var 0) (ja_cons (j_globR rfl T.g_InvalidTable) ja_nil))) (ja_cons (j_cb call_isX c_isX rfl T.z_isinstance (by decide +kernel) (ja_cons (j_var 0) (ja_cons (j_globR rfl T.g_NotClosed) ja_nil))) ja_nil))))))
    (jss_cons (js_set (i := 1) sc_law_classes.nd rfl (by first | exact Or.inl rfl | exact Or.inr rfl) (j_op o_add (p_add true) (j_var 1) (j_lst true (ja_cons (j_cb call_isX c_isX rfl T.z_isinstance (by decide +kernel) (ja_cons (j_var 0) (ja_cons (j_globR rfl T.g_Refusable) ja_nil))) (ja_cons (j_cb call_isX c_isX rfl T.z_isinstance (by decide +kernel) (ja_cons (j_var 0) (ja_cons (j_globR rfl T.g_InvalidChoice) ja_nil))) (ja_cons (j_cb call_isX c_isX rfl T.z_isinstance (by decide +kernel) (ja_cons (j_var 0) (ja_cons (j_globR rfl T.g_UnknownSet) ja_nil))) ja_nil))))))
    (jss_one (js_ret (j_op o_add (p_add false) (j_var 1) (j_lst true (ja_cons (j_cb call_isX c_isX rfl T.z_isinstance (by decide +kernel) (ja_cons (j_var 0) (ja_cons (j_globR rfl T.g_TooMany) ja_nil))) (ja_cons (j_cb call_isX c_isX rfl T.z_isinstance (by decide +kernel) (ja_cons (j_var 0) (ja_cons (j_globR rfl T.g_Refused) ja_nil))) (ja_cons (j_cb call_isX c_isX rfl T.z_isinstance (by decide +kernel) (ja_cons (j_var 0) (ja_cons (j_globR rfl T.g_NotDone) ja_nil))) ja_nil)))))))))))))))
theorem sc_law_objects : FnScope N_law_objects ["_law_held", "_law_other"] (defScope s_law_objects) := ⟨rfl, rfl, rfl, by decide +kernel, rfl, by decide +kernel, by decide +kernel⟩
theorem ok_law_objects (T : Tx K mg a) : FnOk P w K mg base (L2N.CX P w) 3 a.f_law_objects a.d_law_objects ["_law_held", "_law_other"] (liftSp K 2 (C_law_objects a)) := by
  refine fn_ok T.F_law_objects sc_law_objects (by decide) (fun cdv A outer s H E hr => ?_) (pl_law_objects T)
  have tk : L2N.Takes (cxOf (L2N.CX P w) P w K mg base N_law_objects "_law_objects" (defScope s_law_objects) a.f_law_objects cdv A outer s H E) (fun cls d _ H => E cls d H) := L2N.takes_of rfl rfl rfl rfl
  exact (jss_cons (js_set (i := 2) sc_law_objects.nd rfl (by first | exact Or.inl rfl | exact Or.inr rfl) (j_lst true (ja_cons (j_err T.o_InvalidRuns T.i_InvalidRuns T.t_InvalidRuns (okI_InvalidRuns T) T.BI_InvalidRuns (hr.mono (by decide)) rfl T.g_InvalidRuns (ja_cons (j_var 0) ja_nil)) (ja_cons (j_err T.o_InvalidBlock T.i_InvalidBlock T.t_InvalidBlock (okI_InvalidBlock T) T.BI_InvalidBlock (hr.mono (by decide)) rfl T.g_InvalidBlock (ja_cons (j_var 0) ja_nil)) (ja_cons (j_err T.o_InvalidText T.i_InvalidText T.t_InvalidText (okI_InvalidText T) T.BI_InvalidText (hr.mono (by decide)) rfl T.g_InvalidText (ja_cons (j_var 0) ja_nil)) (ja_cons (j_err T.o_InvalidBook T.i_InvalidBook T.t_InvalidBook (okI_InvalidBook T) T.BI_InvalidBook (hr.mono (by decide)) rfl T.g_InvalidBook (ja_cons (j_var 0) ja_nil)) ja_nil))))))
    (jss_cons (js_set (i := 2) sc_law_objects.nd rfl (by first | exact Or.inl rfl | exact Or.inr rfl) (j_op o_add (p_add true) (j_var 2) (j_lst true (ja_cons (j_err T.o_InvalidNumber T.i_InvalidNumber T.t_InvalidNumber (okI_InvalidNumber T) T.BI_InvalidNumber (hr.mono (by decide)) rfl T.g_InvalidNumber (ja_cons (j_var 0) ja_nil)) (ja_cons (j_err T.o_InvalidRule T.i_InvalidRule T.t_InvalidRule (okI_InvalidRule T) T.BI_InvalidRule (hr.mono (by decide)) rfl T.g_InvalidRule (ja_cons (j_var 0) ja_nil)) (ja_cons (j_err T.o_InvalidDisk T.i_InvalidDisk T.t_InvalidDisk (okI_InvalidDisk T) T.BI_InvalidDisk (hr.mono (by decide)) rfl T.g_InvalidDisk (ja_cons (j_var 0) ja_nil)) (ja_cons (j_err T.o_InvalidName T.i_InvalidName T.t_InvalidName (okI_InvalidName T) T.BI_InvalidName (hr.mono (by decide)) rfl T.g_InvalidName (ja_cons (j_var 0) ja_nil)) ja_nil)))))))
    (jss_cons (js_set (i := 2) sc_law_objects.nd rfl (by first | exact Or.inl rfl | exact Or.inr rfl) (j_op o_add (p_add true) (j_var 2) (j_lst true (ja_cons (j_err T.o_KnownName T.i_KnownName T.t_KnownName (okI_KnownName T) T.BI_KnownName (hr.mono (by decide)) rfl T.g_KnownName (ja_cons (j_var 0) ja_nil)) (ja_cons (j_err T.o_UnknownName T.i_UnknownName T.t_UnknownName (okI_UnknownName T) T.BI_UnknownName (hr.mono (by decide)) rfl T.g_UnknownName (ja_cons (j_var 0) ja_nil)) (ja_cons (j_err T.o_Closed T.i_Closed T.t_Closed (okI_Closed T) T.BI_Closed (hr.mono (by decide)) rfl T.g_Closed (ja_cons (j_var 0) ja_nil)) (ja_cons (j_err T.o_Opened T.i_Opened T.t_Opened (okI_Opened T) T.BI_Opened (hr.mono (by decide)) rfl T.g_Opened (ja_cons (j_var 0) ja_nil)) ja_nil)))))))
    (jss_cons (js_set (i := 2) sc_law_objects.nd rfl (by first | exact Or.inl rfl | exact Or.inr rfl) (j_op o_add (p_add true) (j_var 2) (j_lst true (ja_cons (j_err T.o_InvalidEvent T.i_InvalidEvent T.t_InvalidEvent (okI_InvalidEvent T) T.BI_InvalidEvent (hr.mono (by decide)) rfl T.g_InvalidEvent (ja_cons (j_var 0) ja_nil)) (ja_cons (j_err T.o_InvalidRow T.i_InvalidRow T.t_InvalidRow (okI_InvalidRow T) T.BI_InvalidRow (hr.mono (by decide)) rfl T.g_InvalidRow (ja_cons (j_var 0) ja_nil)) (ja_cons (j_err T.o_InvalidLine T.i_InvalidLine T.t_InvalidLine (okI_InvalidLine T) T.BI_InvalidLine (hr.mono (by decide)) rfl T.g_InvalidLine (ja_cons (j_var 0) ja_nil)) (ja_cons (j_err T.o_NothingLeft T.i_NothingLeft T.t_NothingLeft (okI_NothingLeft T) T.BI_NothingLeft (hr.mono (by decide)) rfl T.g_NothingLeft (ja_cons (j_var 0) ja_nil)) ja_nil)))))))
    (jss_cons (js_set (i := 2) sc_law_objects.nd rfl (by first | exact Or.inl rfl | exact Or.inr rfl) (j_op o_add (p_add true) (j_var 2) (j_lst true (ja_cons (j_err T.o_InvalidCommand T.i_InvalidCommand T.t_InvalidCommand (okI_InvalidCommand T) T.BI_InvalidCommand (hr.mono (by decide)) rfl T.g_InvalidCommand (ja_cons (j_var 0) ja_nil)) (ja_cons (j_err T.o_InvalidSizes T.i_InvalidSizes T.t_InvalidSizes (okI_InvalidSizes T) T.BI_InvalidSizes (hr.mono (by decide)) rfl T.g_InvalidSizes (ja_cons (j_var 0) ja_nil)) (ja_cons (j_err T.o_InvalidState T.i_InvalidState T.t_InvalidState (okI_InvalidState T) T.BI_InvalidState (hr.mono (by decide)) rfl T.g_InvalidState (ja_cons (j_var 0) ja_nil)) (ja_cons (j_err T.o_InvalidTable T.i_InvalidTable T.t_InvalidTable (okI_InvalidTable T) T.BI_InvalidTable (hr.mono (by decide)) rfl T.g_InvalidTable (ja_cons (j_var 0) ja_nil)) ja_nil)))))))
    (jss_cons (js_set (i := 2) sc_law_objects.nd rfl (by first | exact Or.inl rfl | exact Or.inr rfl) (j_op o_add (p_add true) (j_var 2) (j_lst true (ja_cons (j_err T.o_NotClosed T.i_NotClosed T.t_NotClosed (okI_NotClosed T) T.BI_NotClosed (hr.mono (by decide)) rfl T.g_NotClosed (ja_cons (j_var 0) ja_nil)) (ja_cons (j_err T.o_Refusable T.i_Refusable T.t_Refusable (okI_Refusable T) T.BI_Refusable (hr.mono (by decide)) rfl T.g_Refusable (ja_cons (j_var 0) ja_nil)) (ja_cons (j_err T.o_InvalidChoice T.i_InvalidChoice T.t_InvalidChoice (okI_InvalidChoice T) T.BI_InvalidChoice (hr.mono (by decide)) rfl T.g_InvalidChoice (ja_cons (j_var 0) ja_nil)) (ja_cons (j_err T.o_UnknownSet T.i_UnknownSet T.t_UnknownSet (okI_UnknownSet T) T.BI_UnknownSet (hr.mono (by decide)) rfl T.g_UnknownSet (ja_cons (j_var 0) ja_nil)) ja_nil)))))))
    (jss_one (js_ret (j_op o_add (p_add false) (j_var 2) (j_lst true (ja_cons (j_err T.o_TooMany T.i_TooMany T.t_TooMany (okI_TooMany T) T.BI_TooMany (hr.mono (by decide)) rfl T.g_TooMany (ja_cons (j_var 0) ja_nil)) (ja_cons (j_err2 T.o_Refused T.i_Refused T.t_Refused (okI_Refused T) T.BI_Refused (hr.mono (by decide)) rfl T.g_Refused (ja_cons (j_var 0) (ja_cons (j_var 1) ja_nil))) (ja_cons (j_err2 T.o_NotDone T.i_NotDone T.t_NotDone (okI_NotDone T) T.BI_NotDone (hr.mono (by decide)) rfl T.g_NotDone (ja_cons (j_var 0) (ja_cons (j_var 1) ja_nil))) ja_nil)))))))))))))
theorem sc_law_fields : FnScope N_law_fields ["_law_held"] (defScope s_law_fields) := ⟨rfl, rfl, rfl, by decide +kernel, rfl, by decide +kernel, by decide +kernel⟩
theorem ok_law_fields (T : Tx K mg a) : FnOk P w K mg base (L2N.CX P w) 3 a.f_law_fields a.d_law_fields ["_law_held"] (liftSp K 1 (C_law_fields a)) := by
  refine fn_ok T.F_law_fields sc_law_fields (by decide) (fun cdv A outer s H E hr => ?_) (pl_law_fields T)
  have tk : L2N.Takes (cxOf (L2N.CX P w) P w K mg base N_law_fields "_law_fields" (defScope s_law_fields) a.f_law_fields cdv A outer s H E) (fun cls d _ H => E cls d H) := L2N.takes_of rfl rfl rfl rfl
  exact (jss_cons (js_set (i := 1) sc_law_fields.nd rfl (by first | exact Or.inl rfl | exact Or.inr rfl) (j_lst false (ja_cons (j_xob (j_errK T.o_InvalidRuns T.i_InvalidRuns T.t_InvalidRuns (okI_InvalidRuns T) T.KE_InvalidRuns (hr.mono (by decide)) rfl T.g_InvalidRuns (jk_cons (j_var 0) jk_nil))) (ja_cons (j_xob (j_errK T.o_InvalidBlock T.i_InvalidBlock T.t_InvalidBlock (okI_InvalidBlock T) T.KE_InvalidBlock (hr.mono (by decide)) rfl T.g_InvalidBlock (jk_cons (j_var 0) jk_nil))) (ja_cons (j_xob (j_errK T.o_InvalidText T.i_InvalidText T.t_InvalidText (okI_InvalidText T) T.KE_InvalidText (hr.mono (by decide)) rfl T.g_InvalidText (jk_cons (j_var 0) jk_nil))) ja_nil)))))
    (jss_cons (js_set (i := 1) sc_law_fields.nd rfl (by first | exact Or.inl rfl | exact Or.inr rfl) (j_op o_add (p_add false) (j_var 1) (j_lst true (ja_cons (j_xob (j_errK T.o_InvalidBook T.i_InvalidBook T.t_InvalidBook (okI_InvalidBook T) T.KE_InvalidBook (hr.mono (by decide)) rfl T.g_InvalidBook (jk_cons (j_var 0) jk_nil))) (ja_cons (j_xob (j_errK T.o_InvalidNumber T.i_InvalidNumber T.t_InvalidNumber (okI_InvalidNumber T) T.KE_InvalidNumber (hr.mono (by decide)) rfl T.g_InvalidNumber (jk_cons (j_var 0) jk_nil))) (ja_cons (j_xob (j_errK T.o_InvalidRule T.i_InvalidRule T.t_InvalidRule (okI_InvalidRule T) T.KE_InvalidRule (hr.mono (by decide)) rfl T.g_InvalidRule (jk_cons (j_var 0) jk_nil))) ja_nil))))))
    (jss_cons (js_set (i := 1) sc_law_fields.nd rfl (by first | exact Or.inl rfl | exact Or.inr rfl) (j_op o_add (p_add false) (j_var 1) (j_lst true (ja_cons (j_xob (j_errK T.o_InvalidDisk T.i_InvalidDisk T.t_InvalidDisk (okI_InvalidDisk T) T.KE_InvalidDisk (hr.mono (by decide)) rfl T.g_InvalidDisk (jk_cons (j_var 0) jk_nil))) (ja_cons (j_xob (j_errK T.o_InvalidName T.i_InvalidName T.t_InvalidName (okI_InvalidName T) T.KE_InvalidName (hr.mono (by decide)) rfl T.g_InvalidName (jk_cons (j_var 0) jk_nil))) (ja_cons (j_xob (j_errK T.o_KnownName T.i_KnownName T.t_KnownName (okI_KnownName T) T.KE_KnownName (hr.mono (by decide)) rfl T.g_KnownName (jk_cons (j_var 0) jk_nil))) ja_nil))))))
    (jss_cons (js_set (i := 1) sc_law_fields.nd rfl (by first | exact Or.inl rfl | exact Or.inr rfl) (j_op o_add (p_add false) (j_var 1) (j_lst true (ja_cons (j_xob (j_errK T.o_UnknownName T.i_UnknownName T.t_UnknownName (okI_UnknownName T) T.KE_UnknownName (hr.mono (by decide)) rfl T.g_UnknownName (jk_cons (j_var 0) jk_nil))) (ja_cons (j_xob (j_errK T.o_Closed T.i_Closed T.t_Closed (okI_Closed T) T.KE_Closed (hr.mono (by decide)) rfl T.g_Closed (jk_cons (j_var 0) jk_nil))) (ja_cons (j_xob (j_errK T.o_Opened T.i_Opened T.t_Opened (okI_Opened T) T.KE_Opened (hr.mono (by decide)) rfl T.g_Opened (jk_cons (j_var 0) jk_nil))) ja_nil))))))
    (jss_cons (js_set (i := 1) sc_law_fields.nd rfl (by first | exact Or.inl rfl | exact Or.inr rfl) (j_op o_add (p_add false) (j_var 1) (j_lst true (ja_cons (j_xob (j_errK T.o_InvalidEvent T.i_InvalidEvent T.t_InvalidEvent (okI_InvalidEvent T) T.KE_InvalidEvent (hr.mono (by decide)) rfl T.g_InvalidEvent (jk_cons (j_var 0) jk_nil))) (ja_cons (j_xob (j_errK T.o_InvalidRow T.i_InvalidRow T.t_InvalidRow (okI_InvalidRow T) T.KE_InvalidRow (hr.mono (by decide)) rfl T.g_InvalidRow (jk_cons (j_var 0) jk_nil))) (ja_cons (j_xob (j_errK T.o_InvalidLine T.i_InvalidLine T.t_InvalidLine (okI_InvalidLine T) T.KE_InvalidLine (hr.mono (by decide)) rfl T.g_InvalidLine (jk_cons (j_var 0) jk_nil))) ja_nil))))))
    (jss_cons (js_set (i := 1) sc_law_fields.nd rfl (by first | exact Or.inl rfl | exact Or.inr rfl) (j_op o_add (p_add false) (j_var 1) (j_lst true (ja_cons (j_xob (j_errK T.o_NothingLeft T.i_NothingLeft T.t_NothingLeft (okI_NothingLeft T) T.KE_NothingLeft (hr.mono (by decide)) rfl T.g_NothingLeft (jk_cons (j_var 0) jk_nil))) (ja_cons (j_xob (j_errK T.o_InvalidCommand T.i_InvalidCommand T.t_InvalidCommand (okI_InvalidCommand T) T.KE_InvalidCommand (hr.mono (by decide)) rfl T.g_InvalidCommand (jk_cons (j_var 0) jk_nil))) (ja_cons (j_xob (j_errK T.o_InvalidSizes T.i_InvalidSizes T.t_InvalidSizes (okI_InvalidSizes T) T.KE_InvalidSizes (hr.mono (by decide)) rfl T.g_InvalidSizes (jk_cons (j_var 0) jk_nil))) ja_nil))))))
    (jss_cons (js_set (i := 1) sc_law_fields.nd rfl (by first | exact Or.inl rfl | exact Or.inr rfl) (j_op o_add (p_add false) (j_var 1) (j_lst true (ja_cons (j_xob (j_errK T.o_InvalidState T.i_InvalidState T.t_InvalidState (okI_InvalidState T) T.KE_InvalidState (hr.mono (by decide)) rfl T.g_InvalidState (jk_cons (j_var 0) jk_nil))) (ja_cons (j_xob (j_errK T.o_InvalidTable T.i_InvalidTable T.t_InvalidTable (okI_InvalidTable T) T.KE_InvalidTable (hr.mono (by decide)) rfl T.g_InvalidTable (jk_cons (j_var 0) jk_nil))) (ja_cons (j_xob (j_errK T.o_NotClosed T.i_NotClosed T.t_NotClosed (okI_NotClosed T) T.KE_NotClosed (hr.mono (by decide)) rfl T.g_NotClosed (jk_cons (j_var 0) jk_nil))) ja_nil))))))
    (jss_cons (js_set (i := 1) sc_law_fields.nd rfl (by first | exact Or.inl rfl | exact Or.inr rfl) (j_op o_add (p_add false) (j_var 1) (j_lst true (ja_cons (j_xob (j_errK T.o_Refusable T.i_Refusable T.t_Refusable (okI_Refusable T) T.KE_Refusable (hr.mono (by decide)) rfl T.g_Refusable (jk_cons (j_var 0) jk_nil))) (ja_cons (j_xob (j_errK T.o_InvalidChoice T.i_InvalidChoice T.t_InvalidChoice (okI_InvalidChoice T) T.KE_InvalidChoice (hr.mono (by decide)) rfl T.g_InvalidChoice (jk_cons (j_var 0) jk_nil))) (ja_cons (j_xob (j_errK T.o_UnknownSet T.i_UnknownSet T.t_UnknownSet (okI_UnknownSet T) T.KE_UnknownSet (hr.mono (by decide)) rfl T.g_UnknownSet (jk_cons (j_var 0) jk_nil))) ja_nil))))))
    (jss_cons (js_set (i := 1) sc_law_fields.nd rfl (by first | exact Or.inl rfl | exact Or.inr rfl) (j_op o_add (p_add false) (j_var 1) (j_lst true (ja_cons (j_xob (j_errK T.o_TooMany T.i_TooMany T.t_TooMany (okI_TooMany T) T.KE_TooMany (hr.mono (by decide)) rfl T.g_TooMany (jk_cons (j_var 0) jk_nil))) (ja_cons (j_xob (j_err2K T.o_Refused T.i_Refused T.t_Refused (okI_Refused T) T.KE_Refused (hr.mono (by decide)) rfl T.g_Refused (jk_cons j_non (jk_cons (j_var 0) jk_nil)))) ja_nil)))))
    (jss_cons (js_expr (j_bm PySem.F.plainAttrs_list PySem.F.slot_list_append PySem.F.type_list_append mt_append ty_list c_app (j_var 1) (ja_cons (j_xob (j_err2K T.o_NotDone T.i_NotDone T.t_NotDone (okI_NotDone T) T.KE_NotDone (hr.mono (by decide)) rfl T.g_NotDone (jk_cons j_non (jk_cons (j_var 0) jk_nil)))) ja_nil)))
    (jss_one (js_ret (j_op o_add (p_add false) (j_var 1) (j_lst true (ja_cons (j_xob (j_err2N T.o_Refused T.i_Refused T.t_Refused (okI_Refused T) T.KF_Refused (hr.mono (by decide)) rfl T.g_Refused (jk_cons j_non (jk_cons (j_var 0) jk_nil)))) ja_nil)))))))))))))))
theorem sc_law_placed : FnScope N_law_placed ["_law_held"] (defScope s_law_placed) := ⟨rfl, rfl, rfl, by decide +kernel, rfl, by decide +kernel, by decide +kernel⟩
theorem ok_law_placed (T : Tx K mg a) : FnOk P w K mg base (L2N.CX P w) 3 a.f_law_placed a.d_law_placed ["_law_held"] (liftSp K 1 (C_law_placed a)) := by
  refine fn_ok T.F_law_placed sc_law_placed (by decide) (fun cdv A outer s H E hr => ?_) (pl_law_placed T)
  have tk : L2N.Takes (cxOf (L2N.CX P w) P w K mg base N_law_placed "_law_placed" (defScope s_law_placed) a.f_law_placed cdv A outer s H E) (fun cls d _ H => E cls d H) := L2N.takes_of rfl rfl rfl rfl
  exact (jss_cons (js_set (i := 1) sc_law_placed.nd rfl (by first | exact Or.inl rfl | exact Or.inr rfl) (j_lst true (ja_cons (j_xob (j_err T.o_InvalidRuns T.i_InvalidRuns T.t_InvalidRuns (okI_InvalidRuns T) T.BI_InvalidRuns (hr.mono (by decide)) rfl T.g_InvalidRuns (ja_cons (j_var 0) ja_nil))) (ja_cons (j_xob (j_err T.o_InvalidBlock T.i_InvalidBlock T.t_InvalidBlock (okI_InvalidBlock T) T.BI_InvalidBlock (hr.mono (by decide)) rfl T.g_InvalidBlock (ja_cons (j_var 0) ja_nil))) (ja_cons (j_xob (j_err T.o_InvalidText T.i_InvalidText T.t_InvalidText (okI_InvalidText T) T.BI_InvalidText (hr.mono (by decide)) rfl T.g_InvalidText (ja_cons (j_var 0) ja_nil))) ja_nil)))))
    (jss_cons (js_set (i := 1) sc_law_placed.nd rfl (by first | exact Or.inl rfl | exact Or.inr rfl) (j_op o_add (p_add true) (j_var 1) (j_lst true (ja_cons (j_xob (j_err T.o_InvalidBook T.i_InvalidBook T.t_InvalidBook (okI_InvalidBook T) T.BI_InvalidBook (hr.mono (by decide)) rfl T.g_InvalidBook (ja_cons (j_var 0) ja_nil))) (ja_cons (j_xob (j_err T.o_InvalidNumber T.i_InvalidNumber T.t_InvalidNumber (okI_InvalidNumber T) T.BI_InvalidNumber (hr.mono (by decide)) rfl T.g_InvalidNumber (ja_cons (j_var 0) ja_nil))) (ja_cons (j_xob (j_err T.o_InvalidRule T.i_InvalidRule T.t_InvalidRule (okI_InvalidRule T) T.BI_InvalidRule (hr.mono (by decide)) rfl T.g_InvalidRule (ja_cons (j_var 0) ja_nil))) ja_nil))))))
    (jss_cons (js_set (i := 1) sc_law_placed.nd rfl (by first | exact Or.inl rfl | exact Or.inr rfl) (j_op o_add (p_add true) (j_var 1) (j_lst true (ja_cons (j_xob (j_err T.o_InvalidDisk T.i_InvalidDisk T.t_InvalidDisk (okI_InvalidDisk T) T.BI_InvalidDisk (hr.mono (by decide)) rfl T.g_InvalidDisk (ja_cons (j_var 0) ja_nil))) (ja_cons (j_xob (j_err T.o_InvalidName T.i_InvalidName T.t_InvalidName (okI_InvalidName T) T.BI_InvalidName (hr.mono (by decide)) rfl T.g_InvalidName (ja_cons (j_var 0) ja_nil))) (ja_cons (j_xob (j_err T.o_KnownName T.i_KnownName T.t_KnownName (okI_KnownName T) T.BI_KnownName (hr.mono (by decide)) rfl T.g_KnownName (ja_cons (j_var 0) ja_nil))) ja_nil))))))
    (jss_cons (js_set (i := 1) sc_law_placed.nd rfl (by first | exact Or.inl rfl | exact Or.inr rfl) (j_op o_add (p_add true) (j_var 1) (j_lst true (ja_cons (j_xob (j_err T.o_UnknownName T.i_UnknownName T.t_UnknownName (okI_UnknownName T) T.BI_UnknownName (hr.mono (by decide)) rfl T.g_UnknownName (ja_cons (j_var 0) ja_nil))) (ja_cons (j_xob (j_err T.o_Closed T.i_Closed T.t_Closed (okI_Closed T) T.BI_Closed (hr.mono (by decide)) rfl T.g_Closed (ja_cons (j_var 0) ja_nil))) (ja_cons (j_xob (j_err T.o_Opened T.i_Opened T.t_Opened (okI_Opened T) T.BI_Opened (hr.mono (by decide)) rfl T.g_Opened (ja_cons (j_var 0) ja_nil))) ja_nil))))))
    (jss_cons (js_set (i := 1) sc_law_placed.nd rfl (by first | exact Or.inl rfl | exact Or.inr rfl) (j_op o_add (p_add true) (j_var 1) (j_lst true (ja_cons (j_xob (j_err T.o_InvalidEvent T.i_InvalidEvent T.t_InvalidEvent (okI_InvalidEvent T) T.BI_InvalidEvent (hr.mono (by decide)) rfl T.g_InvalidEvent (ja_cons (j_var 0) ja_nil))) (ja_cons (j_xob (j_err T.o_InvalidRow T.i_InvalidRow T.t_InvalidRow (okI_InvalidRow T) T.BI_InvalidRow (hr.mono (by decide)) rfl T.g_InvalidRow (ja_cons (j_var 0) ja_nil))) (ja_cons (j_xob (j_err T.o_InvalidLine T.i_InvalidLine T.t_InvalidLine (okI_InvalidLine T) T.BI_InvalidLine (hr.mono (by decide)) rfl T.g_InvalidLine (ja_cons (j_var 0) ja_nil))) ja_nil))))))
    (jss_cons (js_set (i := 1) sc_law_placed.nd rfl (by first | exact Or.inl rfl | exact Or.inr rfl) (j_op o_add (p_add true) (j_var 1) (j_lst true (ja_cons (j_xob (j_err T.o_NothingLeft T.i_NothingLeft T.t_NothingLeft (okI_NothingLeft T) T.BI_NothingLeft (hr.mono (by decide)) rfl T.g_NothingLeft (ja_cons (j_var 0) ja_nil))) (ja_cons (j_xob (j_err T.o_InvalidCommand T.i_InvalidCommand T.t_InvalidCommand (okI_InvalidCommand T) T.BI_InvalidCommand (hr.mono (by decide)) rfl T.g_InvalidCommand (ja_cons (j_var 0) ja_nil))) (ja_cons (j_xob (j_err T.o_InvalidSizes T.i_InvalidSizes T.t_InvalidSizes (okI_InvalidSizes T) T.BI_InvalidSizes (hr.mono (by decide)) rfl T.g_InvalidSizes (ja_cons (j_var 0) ja_nil))) ja_nil))))))
    (jss_cons (js_set (i := 1) sc_law_placed.nd rfl (by first | exact Or.inl rfl | exact Or.inr rfl) (j_op o_add (p_add true) (j_var 1) (j_lst true (ja_cons (j_xob (j_err T.o_InvalidState T.i_InvalidState T.t_InvalidState (okI_InvalidState T) T.BI_InvalidState (hr.mono (by decide)) rfl T.g_InvalidState (ja_cons (j_var 0) ja_nil))) (ja_cons (j_xob (j_err T.o_InvalidTable T.i_InvalidTable T.t_InvalidTable (okI_InvalidTable T) T.BI_InvalidTable (hr.mono (by decide)) rfl T.g_InvalidTable (ja_cons (j_var 0) ja_nil))) (ja_cons (j_xob (j_err T.o_NotClosed T.i_NotClosed T.t_NotClosed (okI_NotClosed T) T.BI_NotClosed (hr.mono (by decide)) rfl T.g_NotClosed (ja_cons (j_var 0) ja_nil))) ja_nil))))))
    (jss_cons (js_set (i := 1) sc_law_placed.nd rfl (by first | exact Or.inl rfl | exact Or.inr rfl) (j_op o_add (p_add true) (j_var 1) (j_lst true (ja_cons (j_xob (j_err T.o_Refusable T.i_Refusable T.t_Refusable (okI_Refusable T) T.BI_Refusable (hr.mono (by decide)) rfl T.g_Refusable (ja_cons (j_var 0) ja_nil))) (ja_cons (j_xob (j_err T.o_InvalidChoice T.i_InvalidChoice T.t_InvalidChoice (okI_InvalidChoice T) T.BI_InvalidChoice (hr.mono (by decide)) rfl T.g_InvalidChoice (ja_cons (j_var 0) ja_nil))) (ja_cons (j_xob (j_err T.o_UnknownSet T.i_UnknownSet T.t_UnknownSet (okI_UnknownSet T) T.BI_UnknownSet (hr.mono (by decide)) rfl T.g_UnknownSet (ja_cons (j_var 0) ja_nil))) ja_nil))))))
    (jss_cons (js_set (i := 1) sc_law_placed.nd rfl (by first | exact Or.inl rfl | exact Or.inr rfl) (j_op o_add (p_add true) (j_var 1) (j_lst true (ja_cons (j_xob (j_err T.o_TooMany T.i_TooMany T.t_TooMany (okI_TooMany T) T.BI_TooMany (hr.mono (by decide)) rfl T.g_TooMany (ja_cons (j_var 0) ja_nil))) (ja_cons (j_xob (j_err2 T.o_Refused T.i_Refused T.t_Refused (okI_Refused T) T.BI_Refused (hr.mono (by decide)) rfl T.g_Refused (ja_cons (j_var 0) (ja_cons j_non ja_nil)))) (ja_cons (j_xob (j_err2 T.o_NotDone T.i_NotDone T.t_NotDone (okI_NotDone T) T.BI_NotDone (hr.mono (by decide)) rfl T.g_NotDone (ja_cons (j_var 0) (ja_cons j_non ja_nil)))) ja_nil))))))
    (jss_one (js_ret (j_op o_add (p_add false) (j_var 1) (j_lst true (ja_cons (j_xob (j_err2 T.o_Refused T.i_Refused T.t_Refused (okI_Refused T) T.BI_Refused (hr.mono (by decide)) rfl T.g_Refused (ja_cons j_non (ja_cons (j_var 0) ja_nil)))) ja_nil))))))))))))))
theorem sc_law : FnScope N_law ["_law_script"] (defScope s_law) := ⟨rfl, rfl, rfl, by decide +kernel, rfl, by decide +kernel, by decide +kernel⟩
theorem ok_law (T : Tx K mg a) : FnOk P w K mg base (L2N.CX P w) 4 a.f_law a.d_law ["_law_script"] (liftSp K 1 C_law) := by
  refine fn_ok T.F_law sc_law (by decide) (fun cdv A outer s H E hr => ?_) (pl_law T)
  have tk : L2N.Takes (cxOf (L2N.CX P w) P w K mg base N_law "law" (defScope s_law) a.f_law cdv A outer s H E) (fun cls d _ H => E cls d H) := L2N.takes_of rfl rfl rfl rfl
  exact (jss_cons (js_for (passes_of rfl) rfl (ji_range1 rfl T.z_range (ja_cons (j_cb (call_maxA rfl) c_max rfl T.z_max (by decide +kernel) (ja_cons j_int (ja_cons (j_cb (call_minA rfl) c_min rfl T.z_min (by decide +kernel) (ja_cons (j_cb call_len c_len rfl T.z_len (by decide +kernel) (ja_cons (j_var 0) ja_nil)) (ja_cons j_int ja_nil))) ja_nil))) ja_nil)) (jg_name (i := 1) sc_law.nd rfl (by first | exact Or.inl rfl | exact Or.inr rfl)) (jss_cons (js_set (i := 2) sc_law.nd rfl (by first | exact Or.inl rfl | exact Or.inr rfl) (j_frz (j_call (ok_law_hand T) (hr.mono (by decide)) rfl T.g_law_hand T.F_law_hand.kp T.b_law_hand (pxT tk) (ja_cons (j_var 0) (ja_cons (j_var 1) ja_nil)))))
    (jss_one (js_for (passes_of rfl) rfl (ji_range1 rfl T.z_range (ja_cons j_int ja_nil)) (jg_name (i := 3) sc_law.nd rfl (by first | exact Or.inl rfl | exact Or.inr rfl)) (jss_cons (js_set (i := 4) sc_law.nd rfl (by first | exact Or.inl rfl | exact Or.inr rfl) (j_lst true (ja_cons j_non (ja_cons j_int (ja_cons j_str (ja_cons (j_pure (t := .tup [.str "a", .int 1]) (j_tup (ja_cons j_str (ja_cons j_int ja_nil))) (pu_tup (pa_c pu_c (pa_c pu_c pa_n)) (by decide))) (ja_cons (j_pure (t := .lst [.str "a"]) (j_lst true (ja_cons j_str ja_nil)) (pu_lst (pa_c pu_c pa_n) (by decide))) (ja_cons (j_disp (ms := [((eC (.str "a")), (eC (.int 1)))]) (pps_cons j_str j_int pps_nil)) (ja_cons (j_pure (t := .int (10 ^ 30)) (j_op op_pow p_pow j_int j_int) (pu_pow pu_c pu_c (by decide))) (ja_cons j_int (ja_cons j_str ja_nil)))))))))))
    (jss_cons (js_set (i := 5) sc_law.nd rfl (by first | exact Or.inl rfl | exact Or.inr rfl) (j_ix (j_var 4) (j_frz (j_call (ok_law_draw T) (hr.mono (by decide)) rfl T.g_law_draw T.F_law_draw.kp T.b_law_draw (pxT tk) (ja_cons (j_var 2) (ja_cons j_int ja_nil))))))
    (jss_cons (js_if (jt_w (jw_or (jt_cmp (op_neS hr.units) p_neS (j_frz (j_call (ok_law_fields T) (hr.mono (by decide)) rfl T.g_law_fields T.F_law_fields.kp T.b_law_fields (pxT tk) (ja_cons (j_var 5) ja_nil))) (j_op o_mul (p_mul true) (j_lst true (ja_cons (j_var 5) ja_nil)) j_int) (nomark _)) (jw_or1 (jt_cmp (op_neS hr.units) p_neS (j_frz (j_call (ok_law_placed T) (hr.mono (by decide)) rfl T.g_law_placed T.F_law_placed.kp T.b_law_placed (pxT tk) (ja_cons (j_var 5) ja_nil))) (j_op o_mul (p_mul true) (j_lst true (ja_cons (j_var 5) ja_nil)) j_int) (nomark _))))) (jss_one (js_ret j_bl)) jss_nil)
    (jss_one (js_for (passes_of rfl) rfl (ji_enum rfl T.z_enumerate (ja_cons (j_frz (j_call (ok_law_objects T) (hr.mono (by decide)) rfl T.g_law_objects T.F_law_objects.kp T.b_law_objects (pxT tk) (ja_cons (j_var 5) (ja_cons j_non ja_nil)))) ja_nil)) (jg_tup rfl (jgs_cons (jg_name (i := 6) sc_law.nd rfl (by first | exact Or.inl rfl | exact Or.inr rfl)) (jgs_cons (jg_name (i := 7) sc_law.nd rfl (by first | exact Or.inl rfl | exact Or.inr rfl)) jgs_nil))) (jss_cons (js_if (jt_cmp (op_neD hr.units) p_ne (j_frz (j_call (ok_law_classes T) (hr.mono (by decide)) rfl T.g_law_classes T.F_law_classes.kp T.b_law_classes (pxT tk) (ja_cons (j_var 7) ja_nil))) (j_lc true (own := [("_law_j", 8)]) rfl sc_law.nd (ct_name (by decide)) (ji_range1 rfl T.z_range (ja_cons j_int ja_nil)) (blkOk_by (N := N_law) (sc := (defScope s_law)) (by decide +kernel)) (fun _ _ _ _ _ => (pg_name (i := 8) sc_law.nd rfl (by first | exact Or.inl rfl | exact Or.inr rfl))) (fun _ _ _ _ _ => jts_nil) (fun _ _ _ _ _ => (j_cmp (op_eqD hr.units) p_eq (j_var 6) (j_var 8) (nomark _)))) (nomark _)) (jss_one (js_ret j_bl)) jss_nil)
    (jss_one (js_if (jt_w (jw_or (jt_not (jt_tru (j_cb call_isX c_isX rfl T.z_isinstance (by decide +kernel) (ja_cons (j_var 7) (ja_cons (j_globR rfl T.g_GrowError) ja_nil))))) (jw_or1 (jt_not (jt_tru (j_cb call_isXT c_isXT rfl T.z_isinstance (by decide +kernel) (ja_cons (j_var 7) (ja_cons (j_ty rfl T.z_ValueError (by decide +kernel)) ja_nil)))))))) (jss_one (js_ret j_bl)) jss_nil))))))))))))
    (jss_one (js_ret j_bl)))
end
theorem all_mk {l : PySem.W.OpenLaw} {w : World} {K : PySem.W.Frag} {h : Heap} {mg : Str → Option Value} {fa : Addr} (X : K.In h) (G : h.Ns mainGlobals mg) (hfa : mg "law" = some (.ref fa))
    {f1 : Addr} {od1 an1 : Option Addr} {sl1 : Array (Option Value)} {oc1 kV1 dc1 pm1 cd1 ct1 : Value}
    {f2 : Addr} {od2 an2 : Option Addr} {sl2 : Array (Option Value)} {oc2 kV2 dc2 pm2 cd2 ct2 : Value}
    {f3 : Addr} {od3 an3 : Option Addr} {sl3 : Array (Option Value)} {oc3 kV3 dc3 pm3 cd3 ct3 : Value}
    {f4 : Addr} {od4 an4 : Option Addr} {sl4 : Array (Option Value)} {oc4 kV4 dc4 pm4 cd4 ct4 : Value}
    {f5 : Addr} {od5 an5 : Option Addr} {sl5 : Array (Option Value)} {oc5 kV5 dc5 pm5 cd5 ct5 : Value}
    {f6 : Addr} {od6 an6 : Option Addr} {sl6 : Array (Option Value)} {oc6 kV6 dc6 pm6 cd6 ct6 : Value}
    {f7 : Addr} {od7 an7 : Option Addr} {sl7 : Array (Option Value)} {oc7 kV7 dc7 pm7 cd7 ct7 : Value}
    {c_TooMany : Addr}
    {c_GrowError : Addr}
    {c_Refused : Addr}
    {c_NotDone : Addr}
    {c_NotClosed : Addr}
    {c_Refusable : Addr}
    {c_InvalidChoice : Addr}
    {c_UnknownSet : Addr}
    {c_InvalidCommand : Addr}
    {c_InvalidSizes : Addr}
    {c_InvalidState : Addr}
    {c_InvalidTable : Addr}
    {c_InvalidEvent : Addr}
    {c_InvalidRow : Addr}
    {c_InvalidLine : Addr}
    {c_NothingLeft : Addr}
    {c_KnownName : Addr}
    {c_UnknownName : Addr}
    {c_Closed : Addr}
    {c_Opened : Addr}
    {c_InvalidNumber : Addr}
    {c_InvalidRule : Addr}
    {c_InvalidDisk : Addr}
    {c_InvalidName : Addr}
    {c_InvalidRuns : Addr}
    {c_InvalidBlock : Addr}
    {c_InvalidText : Addr}
    {c_InvalidBook : Addr}
    {i_TooMany : Addr} {xnm_TooMany xq_TooMany : Str} {xN_TooMany : Addr} {xbs_TooMany : List Value} {xsn_TooMany : List Str} {xsub_TooMany : List Value} {xab_TooMany : Bool} {xcol_TooMany : Option Bool} {xdd_TooMany : Option Addr} {m0_TooMany m1_TooMany m2_TooMany m3_TooMany m5_TooMany : Option Value} {od_TooMany an_TooMany : Option Addr} {sl_TooMany : Array (Option Value)} {oc_TooMany kV_TooMany dc_TooMany pm_TooMany cd_TooMany ct_TooMany : Value}
    {i_Refused : Addr} {xnm_Refused xq_Refused : Str} {xN_Refused : Addr} {xbs_Refused : List Value} {xsn_Refused : List Str} {xsub_Refused : List Value} {xab_Refused : Bool} {xcol_Refused : Option Bool} {xdd_Refused : Option Addr} {m0_Refused m1_Refused m2_Refused m3_Refused m5_Refused : Option Value} {od_Refused an_Refused : Option Addr} {sl_Refused : Array (Option Value)} {oc_Refused kV_Refused dc_Refused pm_Refused cd_Refused ct_Refused : Value}
    {i_NotDone : Addr} {xnm_NotDone xq_NotDone : Str} {xN_NotDone : Addr} {xbs_NotDone : List Value} {xsn_NotDone : List Str} {xsub_NotDone : List Value} {xab_NotDone : Bool} {xcol_NotDone : Option Bool} {xdd_NotDone : Option Addr} {m0_NotDone m1_NotDone m2_NotDone m3_NotDone m5_NotDone : Option Value} {od_NotDone an_NotDone : Option Addr} {sl_NotDone : Array (Option Value)} {oc_NotDone kV_NotDone dc_NotDone pm_NotDone cd_NotDone ct_NotDone : Value}
    {i_NotClosed : Addr} {xnm_NotClosed xq_NotClosed : Str} {xN_NotClosed : Addr} {xbs_NotClosed : List Value} {xsn_NotClosed : List Str} {xsub_NotClosed : List Value} {xab_NotClosed : Bool} {xcol_NotClosed : Option Bool} {xdd_NotClosed : Option Addr} {m0_NotClosed m1_NotClosed m2_NotClosed m3_NotClosed m5_NotClosed : Option Value} {od_NotClosed an_NotClosed : Option Addr} {sl_NotClosed : Array (Option Value)} {oc_NotClosed kV_NotClosed dc_NotClosed pm_NotClosed cd_NotClosed ct_NotClosed : Value}
    {i_Refusable : Addr} {xnm_Refusable xq_Refusable : Str} {xN_Refusable : Addr} {xbs_Refusable : List Value} {xsn_Refusable : List Str} {xsub_Refusable : List Value} {xab_Refusable : Bool} {xcol_Refusable : Option Bool} {xdd_Refusable : Option Addr} {m0_Refusable m1_Refusable m2_Refusable m3_Refusable m5_Refusable : Option Value} {od_Refusable an_Refusable : Option Addr} {sl_Refusable : Array (Option Value)} {oc_Refusable kV_Refusable dc_Refusable pm_Refusable cd_Refusable ct_Refusable : Value}
    {i_InvalidChoice : Addr} {xnm_InvalidChoice xq_InvalidChoice : Str} {xN_InvalidChoice : Addr} {xbs_InvalidChoice : List Value} {xsn_InvalidChoice : List Str} {xsub_InvalidChoice : List Value} {xab_InvalidChoice : Bool} {xcol_InvalidChoice : Option Bool} {xdd_InvalidChoice : Option Addr} {m0_InvalidChoice m1_InvalidChoice m2_InvalidChoice m3_InvalidChoice m5_InvalidChoice : Option Value} {od_InvalidChoice an_InvalidChoice : Option Addr} {sl_InvalidChoice : Array (Option Value)} {oc_InvalidChoice kV_InvalidChoice dc_InvalidChoice pm_InvalidChoice cd_InvalidChoice ct_InvalidChoice : Value}
    {i_UnknownSet : Addr} {xnm_UnknownSet xq_UnknownSet : Str} {xN_UnknownSet : Addr} {xbs_UnknownSet : List Value} {xsn_UnknownSet : List Str} {xsub_UnknownSet : List Value} {xab_UnknownSet : Bool} {xcol_UnknownSet : Option Bool} {xdd_UnknownSet : Option Addr} {m0_UnknownSet m1_UnknownSet m2_UnknownSet m3_UnknownSet m5_UnknownSet : Option Value} {od_UnknownSet an_UnknownSet : Option Addr} {sl_UnknownSet : Array (Option Value)} {oc_UnknownSet kV_UnknownSet dc_UnknownSet pm_UnknownSet cd_UnknownSet ct_UnknownSet : Value}
    {i_InvalidCommand : Addr} {xnm_InvalidCommand xq_InvalidCommand : Str} {xN_InvalidCommand : Addr} {xbs_InvalidCommand : List Value} {xsn_InvalidCommand : List Str} {xsub_InvalidCommand : List Value} {xab_InvalidCommand : Bool} {xcol_InvalidCommand : Option Bool} {xdd_InvalidCommand : Option Addr} {m0_InvalidCommand m1_InvalidCommand m2_InvalidCommand m3_InvalidCommand m5_InvalidCommand : Option Value} {od_InvalidCommand an_InvalidCommand : Option Addr} {sl_InvalidCommand : Array (Option Value)} {oc_InvalidCommand kV_InvalidCommand dc_InvalidCommand pm_InvalidCommand cd_InvalidCommand ct_InvalidCommand : Value}
    {i_InvalidSizes : Addr} {xnm_InvalidSizes xq_InvalidSizes : Str} {xN_InvalidSizes : Addr} {xbs_InvalidSizes : List Value} {xsn_InvalidSizes : List Str} {xsub_InvalidSizes : List Value} {xab_InvalidSizes : Bool} {xcol_InvalidSizes : Option Bool} {xdd_InvalidSizes : Option Addr} {m0_InvalidSizes m1_InvalidSizes m2_InvalidSizes m3_InvalidSizes m5_InvalidSizes : Option Value} {od_InvalidSizes an_InvalidSizes : Option Addr} {sl_InvalidSizes : Array (Option Value)} {oc_InvalidSizes kV_InvalidSizes dc_InvalidSizes pm_InvalidSizes cd_InvalidSizes ct_InvalidSizes : Value}
    {i_InvalidState : Addr} {xnm_InvalidState xq_InvalidState : Str} {xN_InvalidState : Addr} {xbs_InvalidState : List Value} {xsn_InvalidState : List Str} {xsub_InvalidState : List Value} {xab_InvalidState : Bool} {xcol_InvalidState : Option Bool} {xdd_InvalidState : Option Addr} {m0_InvalidState m1_InvalidState m2_InvalidState m3_InvalidState m5_InvalidState : Option Value} {od_InvalidState an_InvalidState : Option Addr} {sl_InvalidState : Array (Option Value)} {oc_InvalidState kV_InvalidState dc_InvalidState pm_InvalidState cd_InvalidState ct_InvalidState : Value}
    {i_InvalidTable : Addr} {xnm_InvalidTable xq_InvalidTable : Str} {xN_InvalidTable : Addr} {xbs_InvalidTable : List Value} {xsn_InvalidTable : List Str} {xsub_InvalidTable : List Value} {xab_InvalidTable : Bool} {xcol_InvalidTable : Option Bool} {xdd_InvalidTable : Option Addr} {m0_InvalidTable m1_InvalidTable m2_InvalidTable m3_InvalidTable m5_InvalidTable : Option Value} {od_InvalidTable an_InvalidTable : Option Addr} {sl_InvalidTable : Array (Option Value)} {oc_InvalidTable kV_InvalidTable dc_InvalidTable pm_InvalidTable cd_InvalidTable ct_InvalidTable : Value}
    {i_InvalidEvent : Addr} {xnm_InvalidEvent xq_InvalidEvent : Str} {xN_InvalidEvent : Addr} {xbs_InvalidEvent : List Value} {xsn_InvalidEvent : List Str} {xsub_InvalidEvent : List Value} {xab_InvalidEvent : Bool} {xcol_InvalidEvent : Option Bool} {xdd_InvalidEvent : Option Addr} {m0_InvalidEvent m1_InvalidEvent m2_InvalidEvent m3_InvalidEvent m5_InvalidEvent : Option Value} {od_InvalidEvent an_InvalidEvent : Option Addr} {sl_InvalidEvent : Array (Option Value)} {oc_InvalidEvent kV_InvalidEvent dc_InvalidEvent pm_InvalidEvent cd_InvalidEvent ct_InvalidEvent : Value}
    {i_InvalidRow : Addr} {xnm_InvalidRow xq_InvalidRow : Str} {xN_InvalidRow : Addr} {xbs_InvalidRow : List Value} {xsn_InvalidRow : List Str} {xsub_InvalidRow : List Value} {xab_InvalidRow : Bool} {xcol_InvalidRow : Option Bool} {xdd_InvalidRow : Option Addr} {m0_InvalidRow m1_InvalidRow m2_InvalidRow m3_InvalidRow m5_InvalidRow : Option Value} {od_InvalidRow an_InvalidRow : Option Addr} {sl_InvalidRow : Array (Option Value)} {oc_InvalidRow kV_InvalidRow dc_InvalidRow pm_InvalidRow cd_InvalidRow ct_InvalidRow : Value}
    {i_InvalidLine : Addr} {xnm_InvalidLine xq_InvalidLine : Str} {xN_InvalidLine : Addr} {xbs_InvalidLine : List Value} {xsn_InvalidLine : List Str} {xsub_InvalidLine : List Value} {xab_InvalidLine : Bool} {xcol_InvalidLine : Option Bool} {xdd_InvalidLine : Option Addr} {m0_InvalidLine m1_InvalidLine m2_InvalidLine m3_InvalidLine m5_InvalidLine : Option Value} {od_InvalidLine an_InvalidLine : Option Addr} {sl_InvalidLine : Array (Option Value)} {oc_InvalidLine kV_InvalidLine dc_InvalidLine pm_InvalidLine cd_InvalidLine ct_InvalidLine : Value}
    {i_NothingLeft : Addr} {xnm_NothingLeft xq_NothingLeft : Str} {xN_NothingLeft : Addr} {xbs_NothingLeft : List Value} {xsn_NothingLeft : List Str} {xsub_NothingLeft : List Value} {xab_NothingLeft : Bool} {xcol_NothingLeft : Option Bool} {xdd_NothingLeft : Option Addr} {m0_NothingLeft m1_NothingLeft m2_NothingLeft m3_NothingLeft m5_NothingLeft : Option Value} {od_NothingLeft an_NothingLeft : Option Addr} {sl_NothingLeft : Array (Option Value)} {oc_NothingLeft kV_NothingLeft dc_NothingLeft pm_NothingLeft cd_NothingLeft ct_NothingLeft : Value}
    {i_KnownName : Addr} {xnm_KnownName xq_KnownName : Str} {xN_KnownName : Addr} {xbs_KnownName : List Value} {xsn_KnownName : List Str} {xsub_KnownName : List Value} {xab_KnownName : Bool} {xcol_KnownName : Option Bool} {xdd_KnownName : Option Addr} {m0_KnownName m1_KnownName m2_KnownName m3_KnownName m5_KnownName : Option Value} {od_KnownName an_KnownName : Option Addr} {sl_KnownName : Array (Option Value)} {oc_KnownName kV_KnownName dc_KnownName pm_KnownName cd_KnownName ct_KnownName : Value}
    {i_UnknownName : Addr} {xnm_UnknownName xq_UnknownName : Str} {xN_UnknownName : Addr} {xbs_UnknownName : List Value} {xsn_UnknownName : List Str} {xsub_UnknownName : List Value} {xab_UnknownName : Bool} {xcol_UnknownName : Option Bool} {xdd_UnknownName : Option Addr} {m0_UnknownName m1_UnknownName m2_UnknownName m3_UnknownName m5_UnknownName : Option Value} {od_UnknownName an_UnknownName : Option Addr} {sl_UnknownName : Array (Option Value)} {oc_UnknownName kV_UnknownName dc_UnknownName pm_UnknownName cd_UnknownName ct_UnknownName : Value}
    {i_Closed : Addr} {xnm_Closed xq_Closed : Str} {xN_Closed : Addr} {xbs_Closed : List Value} {xsn_Closed : List Str} {xsub_Closed : List Value} {xab_Closed : Bool} {xcol_Closed : Option Bool} {xdd_Closed : Option Addr} {m0_Closed m1_Closed m2_Closed m3_Closed m5_Closed : Option Value} {od_Closed an_Closed : Option Addr} {sl_Closed : Array (Option Value)} {oc_Closed kV_Closed dc_Closed pm_Closed cd_Closed ct_Closed : Value}
    {i_Opened : Addr} {xnm_Opened xq_Opened : Str} {xN_Opened : Addr} {xbs_Opened : List Value} {xsn_Opened : List Str} {xsub_Opened : List Value} {xab_Opened : Bool} {xcol_Opened : Option Bool} {xdd_Opened : Option Addr} {m0_Opened m1_Opened m2_Opened m3_Opened m5_Opened : Option Value} {od_Opened an_Opened : Option Addr} {sl_Opened : Array (Option Value)} {oc_Opened kV_Opened dc_Opened pm_Opened cd_Opened ct_Opened : Value}
    {i_InvalidNumber : Addr} {xnm_InvalidNumber xq_InvalidNumber : Str} {xN_InvalidNumber : Addr} {xbs_InvalidNumber : List Value} {xsn_InvalidNumber : List Str} {xsub_InvalidNumber : List Value} {xab_InvalidNumber : Bool} {xcol_InvalidNumber : Option Bool} {xdd_InvalidNumber : Option Addr} {m0_InvalidNumber m1_InvalidNumber m2_InvalidNumber m3_InvalidNumber m5_InvalidNumber : Option Value} {od_InvalidNumber an_InvalidNumber : Option Addr} {sl_InvalidNumber : Array (Option Value)} {oc_InvalidNumber kV_InvalidNumber dc_InvalidNumber pm_InvalidNumber cd_InvalidNumber ct_InvalidNumber : Value}
    {i_InvalidRule : Addr} {xnm_InvalidRule xq_InvalidRule : Str} {xN_InvalidRule : Addr} {xbs_InvalidRule : List Value} {xsn_InvalidRule : List Str} {xsub_InvalidRule : List Value} {xab_InvalidRule : Bool} {xcol_InvalidRule : Option Bool} {xdd_InvalidRule : Option Addr} {m0_InvalidRule m1_InvalidRule m2_InvalidRule m3_InvalidRule m5_InvalidRule : Option Value} {od_InvalidRule an_InvalidRule : Option Addr} {sl_InvalidRule : Array (Option Value)} {oc_InvalidRule kV_InvalidRule dc_InvalidRule pm_InvalidRule cd_InvalidRule ct_InvalidRule : Value}
    {i_InvalidDisk : Addr} {xnm_InvalidDisk xq_InvalidDisk : Str} {xN_InvalidDisk : Addr} {xbs_InvalidDisk : List Value} {xsn_InvalidDisk : List Str} {xsub_InvalidDisk : List Value} {xab_InvalidDisk : Bool} {xcol_InvalidDisk : Option Bool} {xdd_InvalidDisk : Option Addr} {m0_InvalidDisk m1_InvalidDisk m2_InvalidDisk m3_InvalidDisk m5_InvalidDisk : Option Value} {od_InvalidDisk an_InvalidDisk : Option Addr} {sl_InvalidDisk : Array (Option Value)} {oc_InvalidDisk kV_InvalidDisk dc_InvalidDisk pm_InvalidDisk cd_InvalidDisk ct_InvalidDisk : Value}
    {i_InvalidName : Addr} {xnm_InvalidName xq_InvalidName : Str} {xN_InvalidName : Addr} {xbs_InvalidName : List Value} {xsn_InvalidName : List Str} {xsub_InvalidName : List Value} {xab_InvalidName : Bool} {xcol_InvalidName : Option Bool} {xdd_InvalidName : Option Addr} {m0_InvalidName m1_InvalidName m2_InvalidName m3_InvalidName m5_InvalidName : Option Value} {od_InvalidName an_InvalidName : Option Addr} {sl_InvalidName : Array (Option Value)} {oc_InvalidName kV_InvalidName dc_InvalidName pm_InvalidName cd_InvalidName ct_InvalidName : Value}
    {i_InvalidRuns : Addr} {xnm_InvalidRuns xq_InvalidRuns : Str} {xN_InvalidRuns : Addr} {xbs_InvalidRuns : List Value} {xsn_InvalidRuns : List Str} {xsub_InvalidRuns : List Value} {xab_InvalidRuns : Bool} {xcol_InvalidRuns : Option Bool} {xdd_InvalidRuns : Option Addr} {m0_InvalidRuns m1_InvalidRuns m2_InvalidRuns m3_InvalidRuns m5_InvalidRuns : Option Value} {od_InvalidRuns an_InvalidRuns : Option Addr} {sl_InvalidRuns : Array (Option Value)} {oc_InvalidRuns kV_InvalidRuns dc_InvalidRuns pm_InvalidRuns cd_InvalidRuns ct_InvalidRuns : Value}
    {i_InvalidBlock : Addr} {xnm_InvalidBlock xq_InvalidBlock : Str} {xN_InvalidBlock : Addr} {xbs_InvalidBlock : List Value} {xsn_InvalidBlock : List Str} {xsub_InvalidBlock : List Value} {xab_InvalidBlock : Bool} {xcol_InvalidBlock : Option Bool} {xdd_InvalidBlock : Option Addr} {m0_InvalidBlock m1_InvalidBlock m2_InvalidBlock m3_InvalidBlock m5_InvalidBlock : Option Value} {od_InvalidBlock an_InvalidBlock : Option Addr} {sl_InvalidBlock : Array (Option Value)} {oc_InvalidBlock kV_InvalidBlock dc_InvalidBlock pm_InvalidBlock cd_InvalidBlock ct_InvalidBlock : Value}
    {i_InvalidText : Addr} {xnm_InvalidText xq_InvalidText : Str} {xN_InvalidText : Addr} {xbs_InvalidText : List Value} {xsn_InvalidText : List Str} {xsub_InvalidText : List Value} {xab_InvalidText : Bool} {xcol_InvalidText : Option Bool} {xdd_InvalidText : Option Addr} {m0_InvalidText m1_InvalidText m2_InvalidText m3_InvalidText m5_InvalidText : Option Value} {od_InvalidText an_InvalidText : Option Addr} {sl_InvalidText : Array (Option Value)} {oc_InvalidText kV_InvalidText dc_InvalidText pm_InvalidText cd_InvalidText ct_InvalidText : Value}
    {i_InvalidBook : Addr} {xnm_InvalidBook xq_InvalidBook : Str} {xN_InvalidBook : Addr} {xbs_InvalidBook : List Value} {xsn_InvalidBook : List Str} {xsub_InvalidBook : List Value} {xab_InvalidBook : Bool} {xcol_InvalidBook : Option Bool} {xdd_InvalidBook : Option Addr} {m0_InvalidBook m1_InvalidBook m2_InvalidBook m3_InvalidBook m5_InvalidBook : Option Value} {od_InvalidBook an_InvalidBook : Option Addr} {sl_InvalidBook : Array (Option Value)} {oc_InvalidBook kV_InvalidBook dc_InvalidBook pm_InvalidBook cd_InvalidBook ct_InvalidBook : Value}
    (a1 : PySem.W.nsIn K mainGlobals "_law_hand" = some (some (.ref f1)))
    (l1 : K.lookup f1 = some ⟨oc1, od1, .func (PySem.W.fnOf "_law_hand" "_law_hand" (defArgs s_law_hand) (defBody s_law_hand) (defScope s_law_hand) .none kV1 dc1 pm1 an1 cd1 ct1), sl1⟩) (c1 : PySem.W.codeIn K cd1 "_law_hand" = true) (k1 : PySem.W.keepIn K (.ref f1) = true)
    (a2 : PySem.W.nsIn K mainGlobals "_law_draw" = some (some (.ref f2)))
    (l2 : K.lookup f2 = some ⟨oc2, od2, .func (PySem.W.fnOf "_law_draw" "_law_draw" (defArgs s_law_draw) (defBody s_law_draw) (defScope s_law_draw) .none kV2 dc2 pm2 an2 cd2 ct2), sl2⟩) (c2 : PySem.W.codeIn K cd2 "_law_draw" = true) (k2 : PySem.W.keepIn K (.ref f2) = true)
    (a3 : PySem.W.nsIn K mainGlobals "_law_objects" = some (some (.ref f3)))
    (l3 : K.lookup f3 = some ⟨oc3, od3, .func (PySem.W.fnOf "_law_objects" "_law_objects" (defArgs s_law_objects) (defBody s_law_objects) (defScope s_law_objects) .none kV3 dc3 pm3 an3 cd3 ct3), sl3⟩) (c3 : PySem.W.codeIn K cd3 "_law_objects" = true) (k3 : PySem.W.keepIn K (.ref f3) = true)
    (a4 : PySem.W.nsIn K mainGlobals "_law_classes" = some (some (.ref f4)))
    (l4 : K.lookup f4 = some ⟨oc4, od4, .func (PySem.W.fnOf "_law_classes" "_law_classes" (defArgs s_law_classes) (defBody s_law_classes) (defScope s_law_classes) .none kV4 dc4 pm4 an4 cd4 ct4), sl4⟩) (c4 : PySem.W.codeIn K cd4 "_law_classes" = true) (k4 : PySem.W.keepIn K (.ref f4) = true)
    (a5 : PySem.W.nsIn K mainGlobals "_law_fields" = some (some (.ref f5)))
    (l5 : K.lookup f5 = some ⟨oc5, od5, .func (PySem.W.fnOf "_law_fields" "_law_fields" (defArgs s_law_fields) (defBody s_law_fields) (defScope s_law_fields) .none kV5 dc5 pm5 an5 cd5 ct5), sl5⟩) (c5 : PySem.W.codeIn K cd5 "_law_fields" = true) (k5 : PySem.W.keepIn K (.ref f5) = true)
    (a6 : PySem.W.nsIn K mainGlobals "_law_placed" = some (some (.ref f6)))
    (l6 : K.lookup f6 = some ⟨oc6, od6, .func (PySem.W.fnOf "_law_placed" "_law_placed" (defArgs s_law_placed) (defBody s_law_placed) (defScope s_law_placed) .none kV6 dc6 pm6 an6 cd6 ct6), sl6⟩) (c6 : PySem.W.codeIn K cd6 "_law_placed" = true) (k6 : PySem.W.keepIn K (.ref f6) = true)
    (a7 : PySem.W.nsIn K mainGlobals "law" = some (some (.ref f7)))
    (l7 : K.lookup f7 = some ⟨oc7, od7, .func (PySem.W.fnOf "law" "law" (defArgs s_law) (defBody s_law) (defScope s_law) .none kV7 dc7 pm7 an7 cd7 ct7), sl7⟩) (c7 : PySem.W.codeIn K cd7 "law" = true) (k7 : PySem.W.keepIn K (.ref f7) = true)
    (z_ValueError : PySem.W.nsIn K mainGlobals "ValueError" = some none)
    (z_enumerate : PySem.W.nsIn K mainGlobals "enumerate" = some none)
    (z_int : PySem.W.nsIn K mainGlobals "int" = some none)
    (z_isinstance : PySem.W.nsIn K mainGlobals "isinstance" = some none)
    (z_len : PySem.W.nsIn K mainGlobals "len" = some none)
    (z_max : PySem.W.nsIn K mainGlobals "max" = some none)
    (z_min : PySem.W.nsIn K mainGlobals "min" = some none)
    (z_range : PySem.W.nsIn K mainGlobals "range" = some none)
    (ga_TooMany : PySem.W.nsIn K mainGlobals "TooMany" = some (some (.ref c_TooMany)))
    (ga_GrowError : PySem.W.nsIn K mainGlobals "GrowError" = some (some (.ref c_GrowError)))
    (ga_Refused : PySem.W.nsIn K mainGlobals "Refused" = some (some (.ref c_Refused)))
    (ga_NotDone : PySem.W.nsIn K mainGlobals "NotDone" = some (some (.ref c_NotDone)))
    (ga_NotClosed : PySem.W.nsIn K mainGlobals "NotClosed" = some (some (.ref c_NotClosed)))
    (ga_Refusable : PySem.W.nsIn K mainGlobals "Refusable" = some (some (.ref c_Refusable)))
    (ga_InvalidChoice : PySem.W.nsIn K mainGlobals "InvalidChoice" = some (some (.ref c_InvalidChoice)))
    (ga_UnknownSet : PySem.W.nsIn K mainGlobals "UnknownSet" = some (some (.ref c_UnknownSet)))
    (ga_InvalidCommand : PySem.W.nsIn K mainGlobals "InvalidCommand" = some (some (.ref c_InvalidCommand)))
    (ga_InvalidSizes : PySem.W.nsIn K mainGlobals "InvalidSizes" = some (some (.ref c_InvalidSizes)))
    (ga_InvalidState : PySem.W.nsIn K mainGlobals "InvalidState" = some (some (.ref c_InvalidState)))
    (ga_InvalidTable : PySem.W.nsIn K mainGlobals "InvalidTable" = some (some (.ref c_InvalidTable)))
    (ga_InvalidEvent : PySem.W.nsIn K mainGlobals "InvalidEvent" = some (some (.ref c_InvalidEvent)))
    (ga_InvalidRow : PySem.W.nsIn K mainGlobals "InvalidRow" = some (some (.ref c_InvalidRow)))
    (ga_InvalidLine : PySem.W.nsIn K mainGlobals "InvalidLine" = some (some (.ref c_InvalidLine)))
    (ga_NothingLeft : PySem.W.nsIn K mainGlobals "NothingLeft" = some (some (.ref c_NothingLeft)))
    (ga_KnownName : PySem.W.nsIn K mainGlobals "KnownName" = some (some (.ref c_KnownName)))
    (ga_UnknownName : PySem.W.nsIn K mainGlobals "UnknownName" = some (some (.ref c_UnknownName)))
    (ga_Closed : PySem.W.nsIn K mainGlobals "Closed" = some (some (.ref c_Closed)))
    (ga_Opened : PySem.W.nsIn K mainGlobals "Opened" = some (some (.ref c_Opened)))
    (ga_InvalidNumber : PySem.W.nsIn K mainGlobals "InvalidNumber" = some (some (.ref c_InvalidNumber)))
    (ga_InvalidRule : PySem.W.nsIn K mainGlobals "InvalidRule" = some (some (.ref c_InvalidRule)))
    (ga_InvalidDisk : PySem.W.nsIn K mainGlobals "InvalidDisk" = some (some (.ref c_InvalidDisk)))
    (ga_InvalidName : PySem.W.nsIn K mainGlobals "InvalidName" = some (some (.ref c_InvalidName)))
    (ga_InvalidRuns : PySem.W.nsIn K mainGlobals "InvalidRuns" = some (some (.ref c_InvalidRuns)))
    (ga_InvalidBlock : PySem.W.nsIn K mainGlobals "InvalidBlock" = some (some (.ref c_InvalidBlock)))
    (ga_InvalidText : PySem.W.nsIn K mainGlobals "InvalidText" = some (some (.ref c_InvalidText)))
    (ga_InvalidBook : PySem.W.nsIn K mainGlobals "InvalidBook" = some (some (.ref c_InvalidBook)))
    (xL_TooMany : K.lookup c_TooMany = some (excClassObj xnm_TooMany xq_TooMany c_TooMany xN_TooMany xbs_TooMany [.ref c_GrowError, .type "ValueError", .type "Exception", .type "BaseException", .type "object"] true xsn_TooMany xsub_TooMany xab_TooMany xcol_TooMany xdd_TooMany m0_TooMany m1_TooMany m2_TooMany m3_TooMany m5_TooMany "ValueError.__new__"))
    (xsa_TooMany : PySem.W.findIn K (.ref c_TooMany) "__setattr__" = some (some (.builtin "object.__setattr__")))
    (xga_TooMany : PySem.W.findIn K (.ref c_TooMany) "__getattribute__" = some (some (.builtin "BaseException.__getattribute__")))
    (xgg_TooMany : PySem.W.findIn K (.ref c_TooMany) "__getattr__" = some none)
    (xnf_TooMany : PySem.W.findIn K (.ref c_TooMany) "number" = some none)
    (xi_TooMany : PySem.W.findIn K (.ref c_TooMany) "__init__" = some (some (.ref i_TooMany)))
    (xt_TooMany : PySem.W.typeIn K (.ref i_TooMany) = some (.type "function"))
    (xl_TooMany : K.lookup i_TooMany = some ⟨oc_TooMany, od_TooMany, .func (PySem.W.fnOf "__init__" "TooMany.__init__" (defArgs si_TooMany) (defBody si_TooMany) (defScope si_TooMany) .none kV_TooMany dc_TooMany pm_TooMany an_TooMany cd_TooMany ct_TooMany), sl_TooMany⟩)
    (xc_TooMany : PySem.W.codeIn K cd_TooMany "TooMany.__init__" = true)
    (xki_TooMany : PySem.W.keepIn K (.ref i_TooMany) = true)
    (xk_TooMany : PySem.W.keepIn K (.ref c_TooMany) = true)
    (xe_TooMany : PySem.W.subIn K (.ref c_TooMany) (.type "BaseException") = some true)
    (xty_TooMany : PySem.W.typeIn K (.ref c_TooMany) = some (.type "type"))
    (xh_TooMany : PySem.W.hasDictIn K c_TooMany = true)
    (xcl_TooMany : PySem.W.findIn K (.ref c_TooMany) "__class__" = some (some (.builtin "object.__class__")))
    (xsp_TooMany : PySem.W.specialIn K (.builtin "object.__class__") "__get__" = some (some (.builtin "getset_descriptor.__get__")))
    (xtk_TooMany : PySem.W.takesIn K (.builtin "object.__class__") = some true)
    (xm_TooMany : PySem.W.mroIn K c_TooMany (.type "object") = some true)
    (xL_Refused : K.lookup c_Refused = some (excClassObj xnm_Refused xq_Refused c_Refused xN_Refused xbs_Refused [.ref c_GrowError, .type "ValueError", .type "Exception", .type "BaseException", .type "object"] true xsn_Refused xsub_Refused xab_Refused xcol_Refused xdd_Refused m0_Refused m1_Refused m2_Refused m3_Refused m5_Refused "ValueError.__new__"))
    (xsa_Refused : PySem.W.findIn K (.ref c_Refused) "__setattr__" = some (some (.builtin "object.__setattr__")))
    (xga_Refused : PySem.W.findIn K (.ref c_Refused) "__getattribute__" = some (some (.builtin "BaseException.__getattribute__")))
    (xgg_Refused : PySem.W.findIn K (.ref c_Refused) "__getattr__" = some none)
    (xnf_Refused : PySem.W.findIn K (.ref c_Refused) "name" = some none)
    (xnf2_Refused : PySem.W.findIn K (.ref c_Refused) "need" = some none)
    (xi_Refused : PySem.W.findIn K (.ref c_Refused) "__init__" = some (some (.ref i_Refused)))
    (xt_Refused : PySem.W.typeIn K (.ref i_Refused) = some (.type "function"))
    (xl_Refused : K.lookup i_Refused = some ⟨oc_Refused, od_Refused, .func (PySem.W.fnOf "__init__" "Refused.__init__" (defArgs si_Refused) (defBody si_Refused) (defScope si_Refused) .none kV_Refused dc_Refused pm_Refused an_Refused cd_Refused ct_Refused), sl_Refused⟩)
    (xc_Refused : PySem.W.codeIn K cd_Refused "Refused.__init__" = true)
    (xki_Refused : PySem.W.keepIn K (.ref i_Refused) = true)
    (xk_Refused : PySem.W.keepIn K (.ref c_Refused) = true)
    (xe_Refused : PySem.W.subIn K (.ref c_Refused) (.type "BaseException") = some true)
    (xty_Refused : PySem.W.typeIn K (.ref c_Refused) = some (.type "type"))
    (xh_Refused : PySem.W.hasDictIn K c_Refused = true)
    (xcl_Refused : PySem.W.findIn K (.ref c_Refused) "__class__" = some (some (.builtin "object.__class__")))
    (xsp_Refused : PySem.W.specialIn K (.builtin "object.__class__") "__get__" = some (some (.builtin "getset_descriptor.__get__")))
    (xtk_Refused : PySem.W.takesIn K (.builtin "object.__class__") = some true)
    (xm_Refused : PySem.W.mroIn K c_Refused (.type "object") = some true)
    (xL_NotDone : K.lookup c_NotDone = some (excClassObj xnm_NotDone xq_NotDone c_NotDone xN_NotDone xbs_NotDone [.ref c_GrowError, .type "ValueError", .type "Exception", .type "BaseException", .type "object"] true xsn_NotDone xsub_NotDone xab_NotDone xcol_NotDone xdd_NotDone m0_NotDone m1_NotDone m2_NotDone m3_NotDone m5_NotDone "ValueError.__new__"))
    (xsa_NotDone : PySem.W.findIn K (.ref c_NotDone) "__setattr__" = some (some (.builtin "object.__setattr__")))
    (xga_NotDone : PySem.W.findIn K (.ref c_NotDone) "__getattribute__" = some (some (.builtin "BaseException.__getattribute__")))
    (xgg_NotDone : PySem.W.findIn K (.ref c_NotDone) "__getattr__" = some none)
    (xnf_NotDone : PySem.W.findIn K (.ref c_NotDone) "number" = some none)
    (xnf2_NotDone : PySem.W.findIn K (.ref c_NotDone) "error" = some none)
    (xi_NotDone : PySem.W.findIn K (.ref c_NotDone) "__init__" = some (some (.ref i_NotDone)))
    (xt_NotDone : PySem.W.typeIn K (.ref i_NotDone) = some (.type "function"))
    (xl_NotDone : K.lookup i_NotDone = some ⟨oc_NotDone, od_NotDone, .func (PySem.W.fnOf "__init__" "NotDone.__init__" (defArgs si_NotDone) (defBody si_NotDone) (defScope si_NotDone) .none kV_NotDone dc_NotDone pm_NotDone an_NotDone cd_NotDone ct_NotDone), sl_NotDone⟩)
    (xc_NotDone : PySem.W.codeIn K cd_NotDone "NotDone.__init__" = true)
    (xki_NotDone : PySem.W.keepIn K (.ref i_NotDone) = true)
    (xk_NotDone : PySem.W.keepIn K (.ref c_NotDone) = true)
    (xe_NotDone : PySem.W.subIn K (.ref c_NotDone) (.type "BaseException") = some true)
    (xty_NotDone : PySem.W.typeIn K (.ref c_NotDone) = some (.type "type"))
    (xh_NotDone : PySem.W.hasDictIn K c_NotDone = true)
    (xcl_NotDone : PySem.W.findIn K (.ref c_NotDone) "__class__" = some (some (.builtin "object.__class__")))
    (xsp_NotDone : PySem.W.specialIn K (.builtin "object.__class__") "__get__" = some (some (.builtin "getset_descriptor.__get__")))
    (xtk_NotDone : PySem.W.takesIn K (.builtin "object.__class__") = some true)
    (xm_NotDone : PySem.W.mroIn K c_NotDone (.type "object") = some true)
    (xL_NotClosed : K.lookup c_NotClosed = some (excClassObj xnm_NotClosed xq_NotClosed c_NotClosed xN_NotClosed xbs_NotClosed [.ref c_GrowError, .type "ValueError", .type "Exception", .type "BaseException", .type "object"] true xsn_NotClosed xsub_NotClosed xab_NotClosed xcol_NotClosed xdd_NotClosed m0_NotClosed m1_NotClosed m2_NotClosed m3_NotClosed m5_NotClosed "ValueError.__new__"))
    (xsa_NotClosed : PySem.W.findIn K (.ref c_NotClosed) "__setattr__" = some (some (.builtin "object.__setattr__")))
    (xga_NotClosed : PySem.W.findIn K (.ref c_NotClosed) "__getattribute__" = some (some (.builtin "BaseException.__getattribute__")))
    (xgg_NotClosed : PySem.W.findIn K (.ref c_NotClosed) "__getattr__" = some none)
    (xnf_NotClosed : PySem.W.findIn K (.ref c_NotClosed) "number" = some none)
    (xi_NotClosed : PySem.W.findIn K (.ref c_NotClosed) "__init__" = some (some (.ref i_NotClosed)))
    (xt_NotClosed : PySem.W.typeIn K (.ref i_NotClosed) = some (.type "function"))
    (xl_NotClosed : K.lookup i_NotClosed = some ⟨oc_NotClosed, od_NotClosed, .func (PySem.W.fnOf "__init__" "NotClosed.__init__" (defArgs si_NotClosed) (defBody si_NotClosed) (defScope si_NotClosed) .none kV_NotClosed dc_NotClosed pm_NotClosed an_NotClosed cd_NotClosed ct_NotClosed), sl_NotClosed⟩)
    (xc_NotClosed : PySem.W.codeIn K cd_NotClosed "NotClosed.__init__" = true)
    (xki_NotClosed : PySem.W.keepIn K (.ref i_NotClosed) = true)
    (xk_NotClosed : PySem.W.keepIn K (.ref c_NotClosed) = true)
    (xe_NotClosed : PySem.W.subIn K (.ref c_NotClosed) (.type "BaseException") = some true)
    (xty_NotClosed : PySem.W.typeIn K (.ref c_NotClosed) = some (.type "type"))
    (xh_NotClosed : PySem.W.hasDictIn K c_NotClosed = true)
    (xcl_NotClosed : PySem.W.findIn K (.ref c_NotClosed) "__class__" = some (some (.builtin "object.__class__")))
    (xsp_NotClosed : PySem.W.specialIn K (.builtin "object.__class__") "__get__" = some (some (.builtin "getset_descriptor.__get__")))
    (xtk_NotClosed : PySem.W.takesIn K (.builtin "object.__class__") = some true)
    (xm_NotClosed : PySem.W.mroIn K c_NotClosed (.type "object") = some true)
    (xL_Refusable : K.lookup c_Refusable = some (excClassObj xnm_Refusable xq_Refusable c_Refusable xN_Refusable xbs_Refusable [.ref c_GrowError, .type "ValueError", .type "Exception", .type "BaseException", .type "object"] true xsn_Refusable xsub_Refusable xab_Refusable xcol_Refusable xdd_Refusable m0_Refusable m1_Refusable m2_Refusable m3_Refusable m5_Refusable "ValueError.__new__"))
    (xsa_Refusable : PySem.W.findIn K (.ref c_Refusable) "__setattr__" = some (some (.builtin "object.__setattr__")))
    (xga_Refusable : PySem.W.findIn K (.ref c_Refusable) "__getattribute__" = some (some (.builtin "BaseException.__getattribute__")))
    (xgg_Refusable : PySem.W.findIn K (.ref c_Refusable) "__getattr__" = some none)
    (xnf_Refusable : PySem.W.findIn K (.ref c_Refusable) "row" = some none)
    (xi_Refusable : PySem.W.findIn K (.ref c_Refusable) "__init__" = some (some (.ref i_Refusable)))
    (xt_Refusable : PySem.W.typeIn K (.ref i_Refusable) = some (.type "function"))
    (xl_Refusable : K.lookup i_Refusable = some ⟨oc_Refusable, od_Refusable, .func (PySem.W.fnOf "__init__" "Refusable.__init__" (defArgs si_Refusable) (defBody si_Refusable) (defScope si_Refusable) .none kV_Refusable dc_Refusable pm_Refusable an_Refusable cd_Refusable ct_Refusable), sl_Refusable⟩)
    (xc_Refusable : PySem.W.codeIn K cd_Refusable "Refusable.__init__" = true)
    (xki_Refusable : PySem.W.keepIn K (.ref i_Refusable) = true)
    (xk_Refusable : PySem.W.keepIn K (.ref c_Refusable) = true)
    (xe_Refusable : PySem.W.subIn K (.ref c_Refusable) (.type "BaseException") = some true)
    (xty_Refusable : PySem.W.typeIn K (.ref c_Refusable) = some (.type "type"))
    (xh_Refusable : PySem.W.hasDictIn K c_Refusable = true)
    (xcl_Refusable : PySem.W.findIn K (.ref c_Refusable) "__class__" = some (some (.builtin "object.__class__")))
    (xsp_Refusable : PySem.W.specialIn K (.builtin "object.__class__") "__get__" = some (some (.builtin "getset_descriptor.__get__")))
    (xtk_Refusable : PySem.W.takesIn K (.builtin "object.__class__") = some true)
    (xm_Refusable : PySem.W.mroIn K c_Refusable (.type "object") = some true)
    (xL_InvalidChoice : K.lookup c_InvalidChoice = some (excClassObj xnm_InvalidChoice xq_InvalidChoice c_InvalidChoice xN_InvalidChoice xbs_InvalidChoice [.ref c_GrowError, .type "ValueError", .type "Exception", .type "BaseException", .type "object"] true xsn_InvalidChoice xsub_InvalidChoice xab_InvalidChoice xcol_InvalidChoice xdd_InvalidChoice m0_InvalidChoice m1_InvalidChoice m2_InvalidChoice m3_InvalidChoice m5_InvalidChoice "ValueError.__new__"))
    (xsa_InvalidChoice : PySem.W.findIn K (.ref c_InvalidChoice) "__setattr__" = some (some (.builtin "object.__setattr__")))
    (xga_InvalidChoice : PySem.W.findIn K (.ref c_InvalidChoice) "__getattribute__" = some (some (.builtin "BaseException.__getattribute__")))
    (xgg_InvalidChoice : PySem.W.findIn K (.ref c_InvalidChoice) "__getattr__" = some none)
    (xnf_InvalidChoice : PySem.W.findIn K (.ref c_InvalidChoice) "number" = some none)
    (xi_InvalidChoice : PySem.W.findIn K (.ref c_InvalidChoice) "__init__" = some (some (.ref i_InvalidChoice)))
    (xt_InvalidChoice : PySem.W.typeIn K (.ref i_InvalidChoice) = some (.type "function"))
    (xl_InvalidChoice : K.lookup i_InvalidChoice = some ⟨oc_InvalidChoice, od_InvalidChoice, .func (PySem.W.fnOf "__init__" "InvalidChoice.__init__" (defArgs si_InvalidChoice) (defBody si_InvalidChoice) (defScope si_InvalidChoice) .none kV_InvalidChoice dc_InvalidChoice pm_InvalidChoice an_InvalidChoice cd_InvalidChoice ct_InvalidChoice), sl_InvalidChoice⟩)
    (xc_InvalidChoice : PySem.W.codeIn K cd_InvalidChoice "InvalidChoice.__init__" = true)
    (xki_InvalidChoice : PySem.W.keepIn K (.ref i_InvalidChoice) = true)
    (xk_InvalidChoice : PySem.W.keepIn K (.ref c_InvalidChoice) = true)
    (xe_InvalidChoice : PySem.W.subIn K (.ref c_InvalidChoice) (.type "BaseException") = some true)
    (xty_InvalidChoice : PySem.W.typeIn K (.ref c_InvalidChoice) = some (.type "type"))
    (xh_InvalidChoice : PySem.W.hasDictIn K c_InvalidChoice = true)
    (xcl_InvalidChoice : PySem.W.findIn K (.ref c_InvalidChoice) "__class__" = some (some (.builtin "object.__class__")))
    (xsp_InvalidChoice : PySem.W.specialIn K (.builtin "object.__class__") "__get__" = some (some (.builtin "getset_descriptor.__get__")))
    (xtk_InvalidChoice : PySem.W.takesIn K (.builtin "object.__class__") = some true)
    (xm_InvalidChoice : PySem.W.mroIn K c_InvalidChoice (.type "object") = some true)
    (xL_UnknownSet : K.lookup c_UnknownSet = some (excClassObj xnm_UnknownSet xq_UnknownSet c_UnknownSet xN_UnknownSet xbs_UnknownSet [.ref c_GrowError, .type "ValueError", .type "Exception", .type "BaseException", .type "object"] true xsn_UnknownSet xsub_UnknownSet xab_UnknownSet xcol_UnknownSet xdd_UnknownSet m0_UnknownSet m1_UnknownSet m2_UnknownSet m3_UnknownSet m5_UnknownSet "ValueError.__new__"))
    (xsa_UnknownSet : PySem.W.findIn K (.ref c_UnknownSet) "__setattr__" = some (some (.builtin "object.__setattr__")))
    (xga_UnknownSet : PySem.W.findIn K (.ref c_UnknownSet) "__getattribute__" = some (some (.builtin "BaseException.__getattribute__")))
    (xgg_UnknownSet : PySem.W.findIn K (.ref c_UnknownSet) "__getattr__" = some none)
    (xnf_UnknownSet : PySem.W.findIn K (.ref c_UnknownSet) "picks" = some none)
    (xi_UnknownSet : PySem.W.findIn K (.ref c_UnknownSet) "__init__" = some (some (.ref i_UnknownSet)))
    (xt_UnknownSet : PySem.W.typeIn K (.ref i_UnknownSet) = some (.type "function"))
    (xl_UnknownSet : K.lookup i_UnknownSet = some ⟨oc_UnknownSet, od_UnknownSet, .func (PySem.W.fnOf "__init__" "UnknownSet.__init__" (defArgs si_UnknownSet) (defBody si_UnknownSet) (defScope si_UnknownSet) .none kV_UnknownSet dc_UnknownSet pm_UnknownSet an_UnknownSet cd_UnknownSet ct_UnknownSet), sl_UnknownSet⟩)
    (xc_UnknownSet : PySem.W.codeIn K cd_UnknownSet "UnknownSet.__init__" = true)
    (xki_UnknownSet : PySem.W.keepIn K (.ref i_UnknownSet) = true)
    (xk_UnknownSet : PySem.W.keepIn K (.ref c_UnknownSet) = true)
    (xe_UnknownSet : PySem.W.subIn K (.ref c_UnknownSet) (.type "BaseException") = some true)
    (xty_UnknownSet : PySem.W.typeIn K (.ref c_UnknownSet) = some (.type "type"))
    (xh_UnknownSet : PySem.W.hasDictIn K c_UnknownSet = true)
    (xcl_UnknownSet : PySem.W.findIn K (.ref c_UnknownSet) "__class__" = some (some (.builtin "object.__class__")))
    (xsp_UnknownSet : PySem.W.specialIn K (.builtin "object.__class__") "__get__" = some (some (.builtin "getset_descriptor.__get__")))
    (xtk_UnknownSet : PySem.W.takesIn K (.builtin "object.__class__") = some true)
    (xm_UnknownSet : PySem.W.mroIn K c_UnknownSet (.type "object") = some true)
    (xL_InvalidCommand : K.lookup c_InvalidCommand = some (excClassObj xnm_InvalidCommand xq_InvalidCommand c_InvalidCommand xN_InvalidCommand xbs_InvalidCommand [.ref c_GrowError, .type "ValueError", .type "Exception", .type "BaseException", .type "object"] true xsn_InvalidCommand xsub_InvalidCommand xab_InvalidCommand xcol_InvalidCommand xdd_InvalidCommand m0_InvalidCommand m1_InvalidCommand m2_InvalidCommand m3_InvalidCommand m5_InvalidCommand "ValueError.__new__"))
    (xsa_InvalidCommand : PySem.W.findIn K (.ref c_InvalidCommand) "__setattr__" = some (some (.builtin "object.__setattr__")))
    (xga_InvalidCommand : PySem.W.findIn K (.ref c_InvalidCommand) "__getattribute__" = some (some (.builtin "BaseException.__getattribute__")))
    (xgg_InvalidCommand : PySem.W.findIn K (.ref c_InvalidCommand) "__getattr__" = some none)
    (xnf_InvalidCommand : PySem.W.findIn K (.ref c_InvalidCommand) "row" = some none)
    (xi_InvalidCommand : PySem.W.findIn K (.ref c_InvalidCommand) "__init__" = some (some (.ref i_InvalidCommand)))
    (xt_InvalidCommand : PySem.W.typeIn K (.ref i_InvalidCommand) = some (.type "function"))
    (xl_InvalidCommand : K.lookup i_InvalidCommand = some ⟨oc_InvalidCommand, od_InvalidCommand, .func (PySem.W.fnOf "__init__" "InvalidCommand.__init__" (defArgs si_InvalidCommand) (defBody si_InvalidCommand) (defScope si_InvalidCommand) .none kV_InvalidCommand dc_InvalidCommand pm_InvalidCommand an_InvalidCommand cd_InvalidCommand ct_InvalidCommand), sl_InvalidCommand⟩)
    (xc_InvalidCommand : PySem.W.codeIn K cd_InvalidCommand "InvalidCommand.__init__" = true)
    (xki_InvalidCommand : PySem.W.keepIn K (.ref i_InvalidCommand) = true)
    (xk_InvalidCommand : PySem.W.keepIn K (.ref c_InvalidCommand) = true)
    (xe_InvalidCommand : PySem.W.subIn K (.ref c_InvalidCommand) (.type "BaseException") = some true)
    (xty_InvalidCommand : PySem.W.typeIn K (.ref c_InvalidCommand) = some (.type "type"))
    (xh_InvalidCommand : PySem.W.hasDictIn K c_InvalidCommand = true)
    (xcl_InvalidCommand : PySem.W.findIn K (.ref c_InvalidCommand) "__class__" = some (some (.builtin "object.__class__")))
    (xsp_InvalidCommand : PySem.W.specialIn K (.builtin "object.__class__") "__get__" = some (some (.builtin "getset_descriptor.__get__")))
    (xtk_InvalidCommand : PySem.W.takesIn K (.builtin "object.__class__") = some true)
    (xm_InvalidCommand : PySem.W.mroIn K c_InvalidCommand (.type "object") = some true)
    (xL_InvalidSizes : K.lookup c_InvalidSizes = some (excClassObj xnm_InvalidSizes xq_InvalidSizes c_InvalidSizes xN_InvalidSizes xbs_InvalidSizes [.ref c_GrowError, .type "ValueError", .type "Exception", .type "BaseException", .type "object"] true xsn_InvalidSizes xsub_InvalidSizes xab_InvalidSizes xcol_InvalidSizes xdd_InvalidSizes m0_InvalidSizes m1_InvalidSizes m2_InvalidSizes m3_InvalidSizes m5_InvalidSizes "ValueError.__new__"))
    (xsa_InvalidSizes : PySem.W.findIn K (.ref c_InvalidSizes) "__setattr__" = some (some (.builtin "object.__setattr__")))
    (xga_InvalidSizes : PySem.W.findIn K (.ref c_InvalidSizes) "__getattribute__" = some (some (.builtin "BaseException.__getattribute__")))
    (xgg_InvalidSizes : PySem.W.findIn K (.ref c_InvalidSizes) "__getattr__" = some none)
    (xnf_InvalidSizes : PySem.W.findIn K (.ref c_InvalidSizes) "number" = some none)
    (xi_InvalidSizes : PySem.W.findIn K (.ref c_InvalidSizes) "__init__" = some (some (.ref i_InvalidSizes)))
    (xt_InvalidSizes : PySem.W.typeIn K (.ref i_InvalidSizes) = some (.type "function"))
    (xl_InvalidSizes : K.lookup i_InvalidSizes = some ⟨oc_InvalidSizes, od_InvalidSizes, .func (PySem.W.fnOf "__init__" "InvalidSizes.__init__" (defArgs si_InvalidSizes) (defBody si_InvalidSizes) (defScope si_InvalidSizes) .none kV_InvalidSizes dc_InvalidSizes pm_InvalidSizes an_InvalidSizes cd_InvalidSizes ct_InvalidSizes), sl_InvalidSizes⟩)
    (xc_InvalidSizes : PySem.W.codeIn K cd_InvalidSizes "InvalidSizes.__init__" = true)
    (xki_InvalidSizes : PySem.W.keepIn K (.ref i_InvalidSizes) = true)
    (xk_InvalidSizes : PySem.W.keepIn K (.ref c_InvalidSizes) = true)
    (xe_InvalidSizes : PySem.W.subIn K (.ref c_InvalidSizes) (.type "BaseException") = some true)
    (xty_InvalidSizes : PySem.W.typeIn K (.ref c_InvalidSizes) = some (.type "type"))
    (xh_InvalidSizes : PySem.W.hasDictIn K c_InvalidSizes = true)
    (xcl_InvalidSizes : PySem.W.findIn K (.ref c_InvalidSizes) "__class__" = some (some (.builtin "object.__class__")))
    (xsp_InvalidSizes : PySem.W.specialIn K (.builtin "object.__class__") "__get__" = some (some (.builtin "getset_descriptor.__get__")))
    (xtk_InvalidSizes : PySem.W.takesIn K (.builtin "object.__class__") = some true)
    (xm_InvalidSizes : PySem.W.mroIn K c_InvalidSizes (.type "object") = some true)
    (xL_InvalidState : K.lookup c_InvalidState = some (excClassObj xnm_InvalidState xq_InvalidState c_InvalidState xN_InvalidState xbs_InvalidState [.ref c_GrowError, .type "ValueError", .type "Exception", .type "BaseException", .type "object"] true xsn_InvalidState xsub_InvalidState xab_InvalidState xcol_InvalidState xdd_InvalidState m0_InvalidState m1_InvalidState m2_InvalidState m3_InvalidState m5_InvalidState "ValueError.__new__"))
    (xsa_InvalidState : PySem.W.findIn K (.ref c_InvalidState) "__setattr__" = some (some (.builtin "object.__setattr__")))
    (xga_InvalidState : PySem.W.findIn K (.ref c_InvalidState) "__getattribute__" = some (some (.builtin "BaseException.__getattribute__")))
    (xgg_InvalidState : PySem.W.findIn K (.ref c_InvalidState) "__getattr__" = some none)
    (xnf_InvalidState : PySem.W.findIn K (.ref c_InvalidState) "state" = some none)
    (xi_InvalidState : PySem.W.findIn K (.ref c_InvalidState) "__init__" = some (some (.ref i_InvalidState)))
    (xt_InvalidState : PySem.W.typeIn K (.ref i_InvalidState) = some (.type "function"))
    (xl_InvalidState : K.lookup i_InvalidState = some ⟨oc_InvalidState, od_InvalidState, .func (PySem.W.fnOf "__init__" "InvalidState.__init__" (defArgs si_InvalidState) (defBody si_InvalidState) (defScope si_InvalidState) .none kV_InvalidState dc_InvalidState pm_InvalidState an_InvalidState cd_InvalidState ct_InvalidState), sl_InvalidState⟩)
    (xc_InvalidState : PySem.W.codeIn K cd_InvalidState "InvalidState.__init__" = true)
    (xki_InvalidState : PySem.W.keepIn K (.ref i_InvalidState) = true)
    (xk_InvalidState : PySem.W.keepIn K (.ref c_InvalidState) = true)
    (xe_InvalidState : PySem.W.subIn K (.ref c_InvalidState) (.type "BaseException") = some true)
    (xty_InvalidState : PySem.W.typeIn K (.ref c_InvalidState) = some (.type "type"))
    (xh_InvalidState : PySem.W.hasDictIn K c_InvalidState = true)
    (xcl_InvalidState : PySem.W.findIn K (.ref c_InvalidState) "__class__" = some (some (.builtin "object.__class__")))
    (xsp_InvalidState : PySem.W.specialIn K (.builtin "object.__class__") "__get__" = some (some (.builtin "getset_descriptor.__get__")))
    (xtk_InvalidState : PySem.W.takesIn K (.builtin "object.__class__") = some true)
    (xm_InvalidState : PySem.W.mroIn K c_InvalidState (.type "object") = some true)
    (xL_InvalidTable : K.lookup c_InvalidTable = some (excClassObj xnm_InvalidTable xq_InvalidTable c_InvalidTable xN_InvalidTable xbs_InvalidTable [.ref c_GrowError, .type "ValueError", .type "Exception", .type "BaseException", .type "object"] true xsn_InvalidTable xsub_InvalidTable xab_InvalidTable xcol_InvalidTable xdd_InvalidTable m0_InvalidTable m1_InvalidTable m2_InvalidTable m3_InvalidTable m5_InvalidTable "ValueError.__new__"))
    (xsa_InvalidTable : PySem.W.findIn K (.ref c_InvalidTable) "__setattr__" = some (some (.builtin "object.__setattr__")))
    (xga_InvalidTable : PySem.W.findIn K (.ref c_InvalidTable) "__getattribute__" = some (some (.builtin "BaseException.__getattribute__")))
    (xgg_InvalidTable : PySem.W.findIn K (.ref c_InvalidTable) "__getattr__" = some none)
    (xnf_InvalidTable : PySem.W.findIn K (.ref c_InvalidTable) "thing" = some none)
    (xi_InvalidTable : PySem.W.findIn K (.ref c_InvalidTable) "__init__" = some (some (.ref i_InvalidTable)))
    (xt_InvalidTable : PySem.W.typeIn K (.ref i_InvalidTable) = some (.type "function"))
    (xl_InvalidTable : K.lookup i_InvalidTable = some ⟨oc_InvalidTable, od_InvalidTable, .func (PySem.W.fnOf "__init__" "InvalidTable.__init__" (defArgs si_InvalidTable) (defBody si_InvalidTable) (defScope si_InvalidTable) .none kV_InvalidTable dc_InvalidTable pm_InvalidTable an_InvalidTable cd_InvalidTable ct_InvalidTable), sl_InvalidTable⟩)
    (xc_InvalidTable : PySem.W.codeIn K cd_InvalidTable "InvalidTable.__init__" = true)
    (xki_InvalidTable : PySem.W.keepIn K (.ref i_InvalidTable) = true)
    (xk_InvalidTable : PySem.W.keepIn K (.ref c_InvalidTable) = true)
    (xe_InvalidTable : PySem.W.subIn K (.ref c_InvalidTable) (.type "BaseException") = some true)
    (xty_InvalidTable : PySem.W.typeIn K (.ref c_InvalidTable) = some (.type "type"))
    (xh_InvalidTable : PySem.W.hasDictIn K c_InvalidTable = true)
    (xcl_InvalidTable : PySem.W.findIn K (.ref c_InvalidTable) "__class__" = some (some (.builtin "object.__class__")))
    (xsp_InvalidTable : PySem.W.specialIn K (.builtin "object.__class__") "__get__" = some (some (.builtin "getset_descriptor.__get__")))
    (xtk_InvalidTable : PySem.W.takesIn K (.builtin "object.__class__") = some true)
    (xm_InvalidTable : PySem.W.mroIn K c_InvalidTable (.type "object") = some true)
    (xL_InvalidEvent : K.lookup c_InvalidEvent = some (excClassObj xnm_InvalidEvent xq_InvalidEvent c_InvalidEvent xN_InvalidEvent xbs_InvalidEvent [.ref c_GrowError, .type "ValueError", .type "Exception", .type "BaseException", .type "object"] true xsn_InvalidEvent xsub_InvalidEvent xab_InvalidEvent xcol_InvalidEvent xdd_InvalidEvent m0_InvalidEvent m1_InvalidEvent m2_InvalidEvent m3_InvalidEvent m5_InvalidEvent "ValueError.__new__"))
    (xsa_InvalidEvent : PySem.W.findIn K (.ref c_InvalidEvent) "__setattr__" = some (some (.builtin "object.__setattr__")))
    (xga_InvalidEvent : PySem.W.findIn K (.ref c_InvalidEvent) "__getattribute__" = some (some (.builtin "BaseException.__getattribute__")))
    (xgg_InvalidEvent : PySem.W.findIn K (.ref c_InvalidEvent) "__getattr__" = some none)
    (xnf_InvalidEvent : PySem.W.findIn K (.ref c_InvalidEvent) "event" = some none)
    (xi_InvalidEvent : PySem.W.findIn K (.ref c_InvalidEvent) "__init__" = some (some (.ref i_InvalidEvent)))
    (xt_InvalidEvent : PySem.W.typeIn K (.ref i_InvalidEvent) = some (.type "function"))
    (xl_InvalidEvent : K.lookup i_InvalidEvent = some ⟨oc_InvalidEvent, od_InvalidEvent, .func (PySem.W.fnOf "__init__" "InvalidEvent.__init__" (defArgs si_InvalidEvent) (defBody si_InvalidEvent) (defScope si_InvalidEvent) .none kV_InvalidEvent dc_InvalidEvent pm_InvalidEvent an_InvalidEvent cd_InvalidEvent ct_InvalidEvent), sl_InvalidEvent⟩)
    (xc_InvalidEvent : PySem.W.codeIn K cd_InvalidEvent "InvalidEvent.__init__" = true)
    (xki_InvalidEvent : PySem.W.keepIn K (.ref i_InvalidEvent) = true)
    (xk_InvalidEvent : PySem.W.keepIn K (.ref c_InvalidEvent) = true)
    (xe_InvalidEvent : PySem.W.subIn K (.ref c_InvalidEvent) (.type "BaseException") = some true)
    (xty_InvalidEvent : PySem.W.typeIn K (.ref c_InvalidEvent) = some (.type "type"))
    (xh_InvalidEvent : PySem.W.hasDictIn K c_InvalidEvent = true)
    (xcl_InvalidEvent : PySem.W.findIn K (.ref c_InvalidEvent) "__class__" = some (some (.builtin "object.__class__")))
    (xsp_InvalidEvent : PySem.W.specialIn K (.builtin "object.__class__") "__get__" = some (some (.builtin "getset_descriptor.__get__")))
    (xtk_InvalidEvent : PySem.W.takesIn K (.builtin "object.__class__") = some true)
    (xm_InvalidEvent : PySem.W.mroIn K c_InvalidEvent (.type "object") = some true)
    (xL_InvalidRow : K.lookup c_InvalidRow = some (excClassObj xnm_InvalidRow xq_InvalidRow c_InvalidRow xN_InvalidRow xbs_InvalidRow [.ref c_GrowError, .type "ValueError", .type "Exception", .type "BaseException", .type "object"] true xsn_InvalidRow xsub_InvalidRow xab_InvalidRow xcol_InvalidRow xdd_InvalidRow m0_InvalidRow m1_InvalidRow m2_InvalidRow m3_InvalidRow m5_InvalidRow "ValueError.__new__"))
    (xsa_InvalidRow : PySem.W.findIn K (.ref c_InvalidRow) "__setattr__" = some (some (.builtin "object.__setattr__")))
    (xga_InvalidRow : PySem.W.findIn K (.ref c_InvalidRow) "__getattribute__" = some (some (.builtin "BaseException.__getattribute__")))
    (xgg_InvalidRow : PySem.W.findIn K (.ref c_InvalidRow) "__getattr__" = some none)
    (xnf_InvalidRow : PySem.W.findIn K (.ref c_InvalidRow) "number" = some none)
    (xi_InvalidRow : PySem.W.findIn K (.ref c_InvalidRow) "__init__" = some (some (.ref i_InvalidRow)))
    (xt_InvalidRow : PySem.W.typeIn K (.ref i_InvalidRow) = some (.type "function"))
    (xl_InvalidRow : K.lookup i_InvalidRow = some ⟨oc_InvalidRow, od_InvalidRow, .func (PySem.W.fnOf "__init__" "InvalidRow.__init__" (defArgs si_InvalidRow) (defBody si_InvalidRow) (defScope si_InvalidRow) .none kV_InvalidRow dc_InvalidRow pm_InvalidRow an_InvalidRow cd_InvalidRow ct_InvalidRow), sl_InvalidRow⟩)
    (xc_InvalidRow : PySem.W.codeIn K cd_InvalidRow "InvalidRow.__init__" = true)
    (xki_InvalidRow : PySem.W.keepIn K (.ref i_InvalidRow) = true)
    (xk_InvalidRow : PySem.W.keepIn K (.ref c_InvalidRow) = true)
    (xe_InvalidRow : PySem.W.subIn K (.ref c_InvalidRow) (.type "BaseException") = some true)
    (xty_InvalidRow : PySem.W.typeIn K (.ref c_InvalidRow) = some (.type "type"))
    (xh_InvalidRow : PySem.W.hasDictIn K c_InvalidRow = true)
    (xcl_InvalidRow : PySem.W.findIn K (.ref c_InvalidRow) "__class__" = some (some (.builtin "object.__class__")))
    (xsp_InvalidRow : PySem.W.specialIn K (.builtin "object.__class__") "__get__" = some (some (.builtin "getset_descriptor.__get__")))
    (xtk_InvalidRow : PySem.W.takesIn K (.builtin "object.__class__") = some true)
    (xm_InvalidRow : PySem.W.mroIn K c_InvalidRow (.type "object") = some true)
    (xL_InvalidLine : K.lookup c_InvalidLine = some (excClassObj xnm_InvalidLine xq_InvalidLine c_InvalidLine xN_InvalidLine xbs_InvalidLine [.ref c_GrowError, .type "ValueError", .type "Exception", .type "BaseException", .type "object"] true xsn_InvalidLine xsub_InvalidLine xab_InvalidLine xcol_InvalidLine xdd_InvalidLine m0_InvalidLine m1_InvalidLine m2_InvalidLine m3_InvalidLine m5_InvalidLine "ValueError.__new__"))
    (xsa_InvalidLine : PySem.W.findIn K (.ref c_InvalidLine) "__setattr__" = some (some (.builtin "object.__setattr__")))
    (xga_InvalidLine : PySem.W.findIn K (.ref c_InvalidLine) "__getattribute__" = some (some (.builtin "BaseException.__getattribute__")))
    (xgg_InvalidLine : PySem.W.findIn K (.ref c_InvalidLine) "__getattr__" = some none)
    (xnf_InvalidLine : PySem.W.findIn K (.ref c_InvalidLine) "number" = some none)
    (xi_InvalidLine : PySem.W.findIn K (.ref c_InvalidLine) "__init__" = some (some (.ref i_InvalidLine)))
    (xt_InvalidLine : PySem.W.typeIn K (.ref i_InvalidLine) = some (.type "function"))
    (xl_InvalidLine : K.lookup i_InvalidLine = some ⟨oc_InvalidLine, od_InvalidLine, .func (PySem.W.fnOf "__init__" "InvalidLine.__init__" (defArgs si_InvalidLine) (defBody si_InvalidLine) (defScope si_InvalidLine) .none kV_InvalidLine dc_InvalidLine pm_InvalidLine an_InvalidLine cd_InvalidLine ct_InvalidLine), sl_InvalidLine⟩)
    (xc_InvalidLine : PySem.W.codeIn K cd_InvalidLine "InvalidLine.__init__" = true)
    (xki_InvalidLine : PySem.W.keepIn K (.ref i_InvalidLine) = true)
    (xk_InvalidLine : PySem.W.keepIn K (.ref c_InvalidLine) = true)
    (xe_InvalidLine : PySem.W.subIn K (.ref c_InvalidLine) (.type "BaseException") = some true)
    (xty_InvalidLine : PySem.W.typeIn K (.ref c_InvalidLine) = some (.type "type"))
    (xh_InvalidLine : PySem.W.hasDictIn K c_InvalidLine = true)
    (xcl_InvalidLine : PySem.W.findIn K (.ref c_InvalidLine) "__class__" = some (some (.builtin "object.__class__")))
    (xsp_InvalidLine : PySem.W.specialIn K (.builtin "object.__class__") "__get__" = some (some (.builtin "getset_descriptor.__get__")))
    (xtk_InvalidLine : PySem.W.takesIn K (.builtin "object.__class__") = some true)
    (xm_InvalidLine : PySem.W.mroIn K c_InvalidLine (.type "object") = some true)
    (xL_NothingLeft : K.lookup c_NothingLeft = some (excClassObj xnm_NothingLeft xq_NothingLeft c_NothingLeft xN_NothingLeft xbs_NothingLeft [.ref c_GrowError, .type "ValueError", .type "Exception", .type "BaseException", .type "object"] true xsn_NothingLeft xsub_NothingLeft xab_NothingLeft xcol_NothingLeft xdd_NothingLeft m0_NothingLeft m1_NothingLeft m2_NothingLeft m3_NothingLeft m5_NothingLeft "ValueError.__new__"))
    (xsa_NothingLeft : PySem.W.findIn K (.ref c_NothingLeft) "__setattr__" = some (some (.builtin "object.__setattr__")))
    (xga_NothingLeft : PySem.W.findIn K (.ref c_NothingLeft) "__getattribute__" = some (some (.builtin "BaseException.__getattribute__")))
    (xgg_NothingLeft : PySem.W.findIn K (.ref c_NothingLeft) "__getattr__" = some none)
    (xnf_NothingLeft : PySem.W.findIn K (.ref c_NothingLeft) "many" = some none)
    (xi_NothingLeft : PySem.W.findIn K (.ref c_NothingLeft) "__init__" = some (some (.ref i_NothingLeft)))
    (xt_NothingLeft : PySem.W.typeIn K (.ref i_NothingLeft) = some (.type "function"))
    (xl_NothingLeft : K.lookup i_NothingLeft = some ⟨oc_NothingLeft, od_NothingLeft, .func (PySem.W.fnOf "__init__" "NothingLeft.__init__" (defArgs si_NothingLeft) (defBody si_NothingLeft) (defScope si_NothingLeft) .none kV_NothingLeft dc_NothingLeft pm_NothingLeft an_NothingLeft cd_NothingLeft ct_NothingLeft), sl_NothingLeft⟩)
    (xc_NothingLeft : PySem.W.codeIn K cd_NothingLeft "NothingLeft.__init__" = true)
    (xki_NothingLeft : PySem.W.keepIn K (.ref i_NothingLeft) = true)
    (xk_NothingLeft : PySem.W.keepIn K (.ref c_NothingLeft) = true)
    (xe_NothingLeft : PySem.W.subIn K (.ref c_NothingLeft) (.type "BaseException") = some true)
    (xty_NothingLeft : PySem.W.typeIn K (.ref c_NothingLeft) = some (.type "type"))
    (xh_NothingLeft : PySem.W.hasDictIn K c_NothingLeft = true)
    (xcl_NothingLeft : PySem.W.findIn K (.ref c_NothingLeft) "__class__" = some (some (.builtin "object.__class__")))
    (xsp_NothingLeft : PySem.W.specialIn K (.builtin "object.__class__") "__get__" = some (some (.builtin "getset_descriptor.__get__")))
    (xtk_NothingLeft : PySem.W.takesIn K (.builtin "object.__class__") = some true)
    (xm_NothingLeft : PySem.W.mroIn K c_NothingLeft (.type "object") = some true)
    (xL_KnownName : K.lookup c_KnownName = some (excClassObj xnm_KnownName xq_KnownName c_KnownName xN_KnownName xbs_KnownName [.ref c_GrowError, .type "ValueError", .type "Exception", .type "BaseException", .type "object"] true xsn_KnownName xsub_KnownName xab_KnownName xcol_KnownName xdd_KnownName m0_KnownName m1_KnownName m2_KnownName m3_KnownName m5_KnownName "ValueError.__new__"))
    (xsa_KnownName : PySem.W.findIn K (.ref c_KnownName) "__setattr__" = some (some (.builtin "object.__setattr__")))
    (xga_KnownName : PySem.W.findIn K (.ref c_KnownName) "__getattribute__" = some (some (.builtin "BaseException.__getattribute__")))
    (xgg_KnownName : PySem.W.findIn K (.ref c_KnownName) "__getattr__" = some none)
    (xnf_KnownName : PySem.W.findIn K (.ref c_KnownName) "name" = some none)
    (xi_KnownName : PySem.W.findIn K (.ref c_KnownName) "__init__" = some (some (.ref i_KnownName)))
    (xt_KnownName : PySem.W.typeIn K (.ref i_KnownName) = some (.type "function"))
    (xl_KnownName : K.lookup i_KnownName = some ⟨oc_KnownName, od_KnownName, .func (PySem.W.fnOf "__init__" "KnownName.__init__" (defArgs si_KnownName) (defBody si_KnownName) (defScope si_KnownName) .none kV_KnownName dc_KnownName pm_KnownName an_KnownName cd_KnownName ct_KnownName), sl_KnownName⟩)
    (xc_KnownName : PySem.W.codeIn K cd_KnownName "KnownName.__init__" = true)
    (xki_KnownName : PySem.W.keepIn K (.ref i_KnownName) = true)
    (xk_KnownName : PySem.W.keepIn K (.ref c_KnownName) = true)
    (xe_KnownName : PySem.W.subIn K (.ref c_KnownName) (.type "BaseException") = some true)
    (xty_KnownName : PySem.W.typeIn K (.ref c_KnownName) = some (.type "type"))
    (xh_KnownName : PySem.W.hasDictIn K c_KnownName = true)
    (xcl_KnownName : PySem.W.findIn K (.ref c_KnownName) "__class__" = some (some (.builtin "object.__class__")))
    (xsp_KnownName : PySem.W.specialIn K (.builtin "object.__class__") "__get__" = some (some (.builtin "getset_descriptor.__get__")))
    (xtk_KnownName : PySem.W.takesIn K (.builtin "object.__class__") = some true)
    (xm_KnownName : PySem.W.mroIn K c_KnownName (.type "object") = some true)
    (xL_UnknownName : K.lookup c_UnknownName = some (excClassObj xnm_UnknownName xq_UnknownName c_UnknownName xN_UnknownName xbs_UnknownName [.ref c_GrowError, .type "ValueError", .type "Exception", .type "BaseException", .type "object"] true xsn_UnknownName xsub_UnknownName xab_UnknownName xcol_UnknownName xdd_UnknownName m0_UnknownName m1_UnknownName m2_UnknownName m3_UnknownName m5_UnknownName "ValueError.__new__"))
    (xsa_UnknownName : PySem.W.findIn K (.ref c_UnknownName) "__setattr__" = some (some (.builtin "object.__setattr__")))
    (xga_UnknownName : PySem.W.findIn K (.ref c_UnknownName) "__getattribute__" = some (some (.builtin "BaseException.__getattribute__")))
    (xgg_UnknownName : PySem.W.findIn K (.ref c_UnknownName) "__getattr__" = some none)
    (xnf_UnknownName : PySem.W.findIn K (.ref c_UnknownName) "name" = some none)
    (xi_UnknownName : PySem.W.findIn K (.ref c_UnknownName) "__init__" = some (some (.ref i_UnknownName)))
    (xt_UnknownName : PySem.W.typeIn K (.ref i_UnknownName) = some (.type "function"))
    (xl_UnknownName : K.lookup i_UnknownName = some ⟨oc_UnknownName, od_UnknownName, .func (PySem.W.fnOf "__init__" "UnknownName.__init__" (defArgs si_UnknownName) (defBody si_UnknownName) (defScope si_UnknownName) .none kV_UnknownName dc_UnknownName pm_UnknownName an_UnknownName cd_UnknownName ct_UnknownName), sl_UnknownName⟩)
    (xc_UnknownName : PySem.W.codeIn K cd_UnknownName "UnknownName.__init__" = true)
    (xki_UnknownName : PySem.W.keepIn K (.ref i_UnknownName) = true)
    (xk_UnknownName : PySem.W.keepIn K (.ref c_UnknownName) = true)
    (xe_UnknownName : PySem.W.subIn K (.ref c_UnknownName) (.type "BaseException") = some true)
    (xty_UnknownName : PySem.W.typeIn K (.ref c_UnknownName) = some (.type "type"))
    (xh_UnknownName : PySem.W.hasDictIn K c_UnknownName = true)
    (xcl_UnknownName : PySem.W.findIn K (.ref c_UnknownName) "__class__" = some (some (.builtin "object.__class__")))
    (xsp_UnknownName : PySem.W.specialIn K (.builtin "object.__class__") "__get__" = some (some (.builtin "getset_descriptor.__get__")))
    (xtk_UnknownName : PySem.W.takesIn K (.builtin "object.__class__") = some true)
    (xm_UnknownName : PySem.W.mroIn K c_UnknownName (.type "object") = some true)
    (xL_Closed : K.lookup c_Closed = some (excClassObj xnm_Closed xq_Closed c_Closed xN_Closed xbs_Closed [.ref c_GrowError, .type "ValueError", .type "Exception", .type "BaseException", .type "object"] true xsn_Closed xsub_Closed xab_Closed xcol_Closed xdd_Closed m0_Closed m1_Closed m2_Closed m3_Closed m5_Closed "ValueError.__new__"))
    (xsa_Closed : PySem.W.findIn K (.ref c_Closed) "__setattr__" = some (some (.builtin "object.__setattr__")))
    (xga_Closed : PySem.W.findIn K (.ref c_Closed) "__getattribute__" = some (some (.builtin "BaseException.__getattribute__")))
    (xgg_Closed : PySem.W.findIn K (.ref c_Closed) "__getattr__" = some none)
    (xnf_Closed : PySem.W.findIn K (.ref c_Closed) "name" = some none)
    (xi_Closed : PySem.W.findIn K (.ref c_Closed) "__init__" = some (some (.ref i_Closed)))
    (xt_Closed : PySem.W.typeIn K (.ref i_Closed) = some (.type "function"))
    (xl_Closed : K.lookup i_Closed = some ⟨oc_Closed, od_Closed, .func (PySem.W.fnOf "__init__" "Closed.__init__" (defArgs si_Closed) (defBody si_Closed) (defScope si_Closed) .none kV_Closed dc_Closed pm_Closed an_Closed cd_Closed ct_Closed), sl_Closed⟩)
    (xc_Closed : PySem.W.codeIn K cd_Closed "Closed.__init__" = true)
    (xki_Closed : PySem.W.keepIn K (.ref i_Closed) = true)
    (xk_Closed : PySem.W.keepIn K (.ref c_Closed) = true)
    (xe_Closed : PySem.W.subIn K (.ref c_Closed) (.type "BaseException") = some true)
    (xty_Closed : PySem.W.typeIn K (.ref c_Closed) = some (.type "type"))
    (xh_Closed : PySem.W.hasDictIn K c_Closed = true)
    (xcl_Closed : PySem.W.findIn K (.ref c_Closed) "__class__" = some (some (.builtin "object.__class__")))
    (xsp_Closed : PySem.W.specialIn K (.builtin "object.__class__") "__get__" = some (some (.builtin "getset_descriptor.__get__")))
    (xtk_Closed : PySem.W.takesIn K (.builtin "object.__class__") = some true)
    (xm_Closed : PySem.W.mroIn K c_Closed (.type "object") = some true)
    (xL_Opened : K.lookup c_Opened = some (excClassObj xnm_Opened xq_Opened c_Opened xN_Opened xbs_Opened [.ref c_GrowError, .type "ValueError", .type "Exception", .type "BaseException", .type "object"] true xsn_Opened xsub_Opened xab_Opened xcol_Opened xdd_Opened m0_Opened m1_Opened m2_Opened m3_Opened m5_Opened "ValueError.__new__"))
    (xsa_Opened : PySem.W.findIn K (.ref c_Opened) "__setattr__" = some (some (.builtin "object.__setattr__")))
    (xga_Opened : PySem.W.findIn K (.ref c_Opened) "__getattribute__" = some (some (.builtin "BaseException.__getattribute__")))
    (xgg_Opened : PySem.W.findIn K (.ref c_Opened) "__getattr__" = some none)
    (xnf_Opened : PySem.W.findIn K (.ref c_Opened) "name" = some none)
    (xi_Opened : PySem.W.findIn K (.ref c_Opened) "__init__" = some (some (.ref i_Opened)))
    (xt_Opened : PySem.W.typeIn K (.ref i_Opened) = some (.type "function"))
    (xl_Opened : K.lookup i_Opened = some ⟨oc_Opened, od_Opened, .func (PySem.W.fnOf "__init__" "Opened.__init__" (defArgs si_Opened) (defBody si_Opened) (defScope si_Opened) .none kV_Opened dc_Opened pm_Opened an_Opened cd_Opened ct_Opened), sl_Opened⟩)
    (xc_Opened : PySem.W.codeIn K cd_Opened "Opened.__init__" = true)
    (xki_Opened : PySem.W.keepIn K (.ref i_Opened) = true)
    (xk_Opened : PySem.W.keepIn K (.ref c_Opened) = true)
    (xe_Opened : PySem.W.subIn K (.ref c_Opened) (.type "BaseException") = some true)
    (xty_Opened : PySem.W.typeIn K (.ref c_Opened) = some (.type "type"))
    (xh_Opened : PySem.W.hasDictIn K c_Opened = true)
    (xcl_Opened : PySem.W.findIn K (.ref c_Opened) "__class__" = some (some (.builtin "object.__class__")))
    (xsp_Opened : PySem.W.specialIn K (.builtin "object.__class__") "__get__" = some (some (.builtin "getset_descriptor.__get__")))
    (xtk_Opened : PySem.W.takesIn K (.builtin "object.__class__") = some true)
    (xm_Opened : PySem.W.mroIn K c_Opened (.type "object") = some true)
    (xL_InvalidNumber : K.lookup c_InvalidNumber = some (excClassObj xnm_InvalidNumber xq_InvalidNumber c_InvalidNumber xN_InvalidNumber xbs_InvalidNumber [.ref c_GrowError, .type "ValueError", .type "Exception", .type "BaseException", .type "object"] true xsn_InvalidNumber xsub_InvalidNumber xab_InvalidNumber xcol_InvalidNumber xdd_InvalidNumber m0_InvalidNumber m1_InvalidNumber m2_InvalidNumber m3_InvalidNumber m5_InvalidNumber "ValueError.__new__"))
    (xsa_InvalidNumber : PySem.W.findIn K (.ref c_InvalidNumber) "__setattr__" = some (some (.builtin "object.__setattr__")))
    (xga_InvalidNumber : PySem.W.findIn K (.ref c_InvalidNumber) "__getattribute__" = some (some (.builtin "BaseException.__getattribute__")))
    (xgg_InvalidNumber : PySem.W.findIn K (.ref c_InvalidNumber) "__getattr__" = some none)
    (xnf_InvalidNumber : PySem.W.findIn K (.ref c_InvalidNumber) "number" = some none)
    (xi_InvalidNumber : PySem.W.findIn K (.ref c_InvalidNumber) "__init__" = some (some (.ref i_InvalidNumber)))
    (xt_InvalidNumber : PySem.W.typeIn K (.ref i_InvalidNumber) = some (.type "function"))
    (xl_InvalidNumber : K.lookup i_InvalidNumber = some ⟨oc_InvalidNumber, od_InvalidNumber, .func (PySem.W.fnOf "__init__" "InvalidNumber.__init__" (defArgs si_InvalidNumber) (defBody si_InvalidNumber) (defScope si_InvalidNumber) .none kV_InvalidNumber dc_InvalidNumber pm_InvalidNumber an_InvalidNumber cd_InvalidNumber ct_InvalidNumber), sl_InvalidNumber⟩)
    (xc_InvalidNumber : PySem.W.codeIn K cd_InvalidNumber "InvalidNumber.__init__" = true)
    (xki_InvalidNumber : PySem.W.keepIn K (.ref i_InvalidNumber) = true)
    (xk_InvalidNumber : PySem.W.keepIn K (.ref c_InvalidNumber) = true)
    (xe_InvalidNumber : PySem.W.subIn K (.ref c_InvalidNumber) (.type "BaseException") = some true)
    (xty_InvalidNumber : PySem.W.typeIn K (.ref c_InvalidNumber) = some (.type "type"))
    (xh_InvalidNumber : PySem.W.hasDictIn K c_InvalidNumber = true)
    (xcl_InvalidNumber : PySem.W.findIn K (.ref c_InvalidNumber) "__class__" = some (some (.builtin "object.__class__")))
    (xsp_InvalidNumber : PySem.W.specialIn K (.builtin "object.__class__") "__get__" = some (some (.builtin "getset_descriptor.__get__")))
    (xtk_InvalidNumber : PySem.W.takesIn K (.builtin "object.__class__") = some true)
    (xm_InvalidNumber : PySem.W.mroIn K c_InvalidNumber (.type "object") = some true)
    (xL_InvalidRule : K.lookup c_InvalidRule = some (excClassObj xnm_InvalidRule xq_InvalidRule c_InvalidRule xN_InvalidRule xbs_InvalidRule [.ref c_GrowError, .type "ValueError", .type "Exception", .type "BaseException", .type "object"] true xsn_InvalidRule xsub_InvalidRule xab_InvalidRule xcol_InvalidRule xdd_InvalidRule m0_InvalidRule m1_InvalidRule m2_InvalidRule m3_InvalidRule m5_InvalidRule "ValueError.__new__"))
    (xsa_InvalidRule : PySem.W.findIn K (.ref c_InvalidRule) "__setattr__" = some (some (.builtin "object.__setattr__")))
    (xga_InvalidRule : PySem.W.findIn K (.ref c_InvalidRule) "__getattribute__" = some (some (.builtin "BaseException.__getattribute__")))
    (xgg_InvalidRule : PySem.W.findIn K (.ref c_InvalidRule) "__getattr__" = some none)
    (xnf_InvalidRule : PySem.W.findIn K (.ref c_InvalidRule) "rule" = some none)
    (xi_InvalidRule : PySem.W.findIn K (.ref c_InvalidRule) "__init__" = some (some (.ref i_InvalidRule)))
    (xt_InvalidRule : PySem.W.typeIn K (.ref i_InvalidRule) = some (.type "function"))
    (xl_InvalidRule : K.lookup i_InvalidRule = some ⟨oc_InvalidRule, od_InvalidRule, .func (PySem.W.fnOf "__init__" "InvalidRule.__init__" (defArgs si_InvalidRule) (defBody si_InvalidRule) (defScope si_InvalidRule) .none kV_InvalidRule dc_InvalidRule pm_InvalidRule an_InvalidRule cd_InvalidRule ct_InvalidRule), sl_InvalidRule⟩)
    (xc_InvalidRule : PySem.W.codeIn K cd_InvalidRule "InvalidRule.__init__" = true)
    (xki_InvalidRule : PySem.W.keepIn K (.ref i_InvalidRule) = true)
    (xk_InvalidRule : PySem.W.keepIn K (.ref c_InvalidRule) = true)
    (xe_InvalidRule : PySem.W.subIn K (.ref c_InvalidRule) (.type "BaseException") = some true)
    (xty_InvalidRule : PySem.W.typeIn K (.ref c_InvalidRule) = some (.type "type"))
    (xh_InvalidRule : PySem.W.hasDictIn K c_InvalidRule = true)
    (xcl_InvalidRule : PySem.W.findIn K (.ref c_InvalidRule) "__class__" = some (some (.builtin "object.__class__")))
    (xsp_InvalidRule : PySem.W.specialIn K (.builtin "object.__class__") "__get__" = some (some (.builtin "getset_descriptor.__get__")))
    (xtk_InvalidRule : PySem.W.takesIn K (.builtin "object.__class__") = some true)
    (xm_InvalidRule : PySem.W.mroIn K c_InvalidRule (.type "object") = some true)
    (xL_InvalidDisk : K.lookup c_InvalidDisk = some (excClassObj xnm_InvalidDisk xq_InvalidDisk c_InvalidDisk xN_InvalidDisk xbs_InvalidDisk [.ref c_GrowError, .type "ValueError", .type "Exception", .type "BaseException", .type "object"] true xsn_InvalidDisk xsub_InvalidDisk xab_InvalidDisk xcol_InvalidDisk xdd_InvalidDisk m0_InvalidDisk m1_InvalidDisk m2_InvalidDisk m3_InvalidDisk m5_InvalidDisk "ValueError.__new__"))
    (xsa_InvalidDisk : PySem.W.findIn K (.ref c_InvalidDisk) "__setattr__" = some (some (.builtin "object.__setattr__")))
    (xga_InvalidDisk : PySem.W.findIn K (.ref c_InvalidDisk) "__getattribute__" = some (some (.builtin "BaseException.__getattribute__")))
    (xgg_InvalidDisk : PySem.W.findIn K (.ref c_InvalidDisk) "__getattr__" = some none)
    (xnf_InvalidDisk : PySem.W.findIn K (.ref c_InvalidDisk) "part" = some none)
    (xi_InvalidDisk : PySem.W.findIn K (.ref c_InvalidDisk) "__init__" = some (some (.ref i_InvalidDisk)))
    (xt_InvalidDisk : PySem.W.typeIn K (.ref i_InvalidDisk) = some (.type "function"))
    (xl_InvalidDisk : K.lookup i_InvalidDisk = some ⟨oc_InvalidDisk, od_InvalidDisk, .func (PySem.W.fnOf "__init__" "InvalidDisk.__init__" (defArgs si_InvalidDisk) (defBody si_InvalidDisk) (defScope si_InvalidDisk) .none kV_InvalidDisk dc_InvalidDisk pm_InvalidDisk an_InvalidDisk cd_InvalidDisk ct_InvalidDisk), sl_InvalidDisk⟩)
    (xc_InvalidDisk : PySem.W.codeIn K cd_InvalidDisk "InvalidDisk.__init__" = true)
    (xki_InvalidDisk : PySem.W.keepIn K (.ref i_InvalidDisk) = true)
    (xk_InvalidDisk : PySem.W.keepIn K (.ref c_InvalidDisk) = true)
    (xe_InvalidDisk : PySem.W.subIn K (.ref c_InvalidDisk) (.type "BaseException") = some true)
    (xty_InvalidDisk : PySem.W.typeIn K (.ref c_InvalidDisk) = some (.type "type"))
    (xh_InvalidDisk : PySem.W.hasDictIn K c_InvalidDisk = true)
    (xcl_InvalidDisk : PySem.W.findIn K (.ref c_InvalidDisk) "__class__" = some (some (.builtin "object.__class__")))
    (xsp_InvalidDisk : PySem.W.specialIn K (.builtin "object.__class__") "__get__" = some (some (.builtin "getset_descriptor.__get__")))
    (xtk_InvalidDisk : PySem.W.takesIn K (.builtin "object.__class__") = some true)
    (xm_InvalidDisk : PySem.W.mroIn K c_InvalidDisk (.type "object") = some true)
    (xL_InvalidName : K.lookup c_InvalidName = some (excClassObj xnm_InvalidName xq_InvalidName c_InvalidName xN_InvalidName xbs_InvalidName [.ref c_GrowError, .type "ValueError", .type "Exception", .type "BaseException", .type "object"] true xsn_InvalidName xsub_InvalidName xab_InvalidName xcol_InvalidName xdd_InvalidName m0_InvalidName m1_InvalidName m2_InvalidName m3_InvalidName m5_InvalidName "ValueError.__new__"))
    (xsa_InvalidName : PySem.W.findIn K (.ref c_InvalidName) "__setattr__" = some (some (.builtin "object.__setattr__")))
    (xga_InvalidName : PySem.W.findIn K (.ref c_InvalidName) "__getattribute__" = some (some (.builtin "BaseException.__getattribute__")))
    (xgg_InvalidName : PySem.W.findIn K (.ref c_InvalidName) "__getattr__" = some none)
    (xnf_InvalidName : PySem.W.findIn K (.ref c_InvalidName) "name" = some none)
    (xi_InvalidName : PySem.W.findIn K (.ref c_InvalidName) "__init__" = some (some (.ref i_InvalidName)))
    (xt_InvalidName : PySem.W.typeIn K (.ref i_InvalidName) = some (.type "function"))
    (xl_InvalidName : K.lookup i_InvalidName = some ⟨oc_InvalidName, od_InvalidName, .func (PySem.W.fnOf "__init__" "InvalidName.__init__" (defArgs si_InvalidName) (defBody si_InvalidName) (defScope si_InvalidName) .none kV_InvalidName dc_InvalidName pm_InvalidName an_InvalidName cd_InvalidName ct_InvalidName), sl_InvalidName⟩)
    (xc_InvalidName : PySem.W.codeIn K cd_InvalidName "InvalidName.__init__" = true)
    (xki_InvalidName : PySem.W.keepIn K (.ref i_InvalidName) = true)
    (xk_InvalidName : PySem.W.keepIn K (.ref c_InvalidName) = true)
    (xe_InvalidName : PySem.W.subIn K (.ref c_InvalidName) (.type "BaseException") = some true)
    (xty_InvalidName : PySem.W.typeIn K (.ref c_InvalidName) = some (.type "type"))
    (xh_InvalidName : PySem.W.hasDictIn K c_InvalidName = true)
    (xcl_InvalidName : PySem.W.findIn K (.ref c_InvalidName) "__class__" = some (some (.builtin "object.__class__")))
    (xsp_InvalidName : PySem.W.specialIn K (.builtin "object.__class__") "__get__" = some (some (.builtin "getset_descriptor.__get__")))
    (xtk_InvalidName : PySem.W.takesIn K (.builtin "object.__class__") = some true)
    (xm_InvalidName : PySem.W.mroIn K c_InvalidName (.type "object") = some true)
    (xL_InvalidRuns : K.lookup c_InvalidRuns = some (excClassObj xnm_InvalidRuns xq_InvalidRuns c_InvalidRuns xN_InvalidRuns xbs_InvalidRuns [.ref c_GrowError, .type "ValueError", .type "Exception", .type "BaseException", .type "object"] true xsn_InvalidRuns xsub_InvalidRuns xab_InvalidRuns xcol_InvalidRuns xdd_InvalidRuns m0_InvalidRuns m1_InvalidRuns m2_InvalidRuns m3_InvalidRuns m5_InvalidRuns "ValueError.__new__"))
    (xsa_InvalidRuns : PySem.W.findIn K (.ref c_InvalidRuns) "__setattr__" = some (some (.builtin "object.__setattr__")))
    (xga_InvalidRuns : PySem.W.findIn K (.ref c_InvalidRuns) "__getattribute__" = some (some (.builtin "BaseException.__getattribute__")))
    (xgg_InvalidRuns : PySem.W.findIn K (.ref c_InvalidRuns) "__getattr__" = some none)
    (xnf_InvalidRuns : PySem.W.findIn K (.ref c_InvalidRuns) "number" = some none)
    (xi_InvalidRuns : PySem.W.findIn K (.ref c_InvalidRuns) "__init__" = some (some (.ref i_InvalidRuns)))
    (xt_InvalidRuns : PySem.W.typeIn K (.ref i_InvalidRuns) = some (.type "function"))
    (xl_InvalidRuns : K.lookup i_InvalidRuns = some ⟨oc_InvalidRuns, od_InvalidRuns, .func (PySem.W.fnOf "__init__" "InvalidRuns.__init__" (defArgs si_InvalidRuns) (defBody si_InvalidRuns) (defScope si_InvalidRuns) .none kV_InvalidRuns dc_InvalidRuns pm_InvalidRuns an_InvalidRuns cd_InvalidRuns ct_InvalidRuns), sl_InvalidRuns⟩)
    (xc_InvalidRuns : PySem.W.codeIn K cd_InvalidRuns "InvalidRuns.__init__" = true)
    (xki_InvalidRuns : PySem.W.keepIn K (.ref i_InvalidRuns) = true)
    (xk_InvalidRuns : PySem.W.keepIn K (.ref c_InvalidRuns) = true)
    (xe_InvalidRuns : PySem.W.subIn K (.ref c_InvalidRuns) (.type "BaseException") = some true)
    (xty_InvalidRuns : PySem.W.typeIn K (.ref c_InvalidRuns) = some (.type "type"))
    (xh_InvalidRuns : PySem.W.hasDictIn K c_InvalidRuns = true)
    (xcl_InvalidRuns : PySem.W.findIn K (.ref c_InvalidRuns) "__class__" = some (some (.builtin "object.__class__")))
    (xsp_InvalidRuns : PySem.W.specialIn K (.builtin "object.__class__") "__get__" = some (some (.builtin "getset_descriptor.__get__")))
    (xtk_InvalidRuns : PySem.W.takesIn K (.builtin "object.__class__") = some true)
    (xm_InvalidRuns : PySem.W.mroIn K c_InvalidRuns (.type "object") = some true)
    (xL_InvalidBlock : K.lookup c_InvalidBlock = some (excClassObj xnm_InvalidBlock xq_InvalidBlock c_InvalidBlock xN_InvalidBlock xbs_InvalidBlock [.ref c_GrowError, .type "ValueError", .type "Exception", .type "BaseException", .type "object"] true xsn_InvalidBlock xsub_InvalidBlock xab_InvalidBlock xcol_InvalidBlock xdd_InvalidBlock m0_InvalidBlock m1_InvalidBlock m2_InvalidBlock m3_InvalidBlock m5_InvalidBlock "ValueError.__new__"))
    (xsa_InvalidBlock : PySem.W.findIn K (.ref c_InvalidBlock) "__setattr__" = some (some (.builtin "object.__setattr__")))
    (xga_InvalidBlock : PySem.W.findIn K (.ref c_InvalidBlock) "__getattribute__" = some (some (.builtin "BaseException.__getattribute__")))
    (xgg_InvalidBlock : PySem.W.findIn K (.ref c_InvalidBlock) "__getattr__" = some none)
    (xnf_InvalidBlock : PySem.W.findIn K (.ref c_InvalidBlock) "block" = some none)
    (xi_InvalidBlock : PySem.W.findIn K (.ref c_InvalidBlock) "__init__" = some (some (.ref i_InvalidBlock)))
    (xt_InvalidBlock : PySem.W.typeIn K (.ref i_InvalidBlock) = some (.type "function"))
    (xl_InvalidBlock : K.lookup i_InvalidBlock = some ⟨oc_InvalidBlock, od_InvalidBlock, .func (PySem.W.fnOf "__init__" "InvalidBlock.__init__" (defArgs si_InvalidBlock) (defBody si_InvalidBlock) (defScope si_InvalidBlock) .none kV_InvalidBlock dc_InvalidBlock pm_InvalidBlock an_InvalidBlock cd_InvalidBlock ct_InvalidBlock), sl_InvalidBlock⟩)
    (xc_InvalidBlock : PySem.W.codeIn K cd_InvalidBlock "InvalidBlock.__init__" = true)
    (xki_InvalidBlock : PySem.W.keepIn K (.ref i_InvalidBlock) = true)
    (xk_InvalidBlock : PySem.W.keepIn K (.ref c_InvalidBlock) = true)
    (xe_InvalidBlock : PySem.W.subIn K (.ref c_InvalidBlock) (.type "BaseException") = some true)
    (xty_InvalidBlock : PySem.W.typeIn K (.ref c_InvalidBlock) = some (.type "type"))
    (xh_InvalidBlock : PySem.W.hasDictIn K c_InvalidBlock = true)
    (xcl_InvalidBlock : PySem.W.findIn K (.ref c_InvalidBlock) "__class__" = some (some (.builtin "object.__class__")))
    (xsp_InvalidBlock : PySem.W.specialIn K (.builtin "object.__class__") "__get__" = some (some (.builtin "getset_descriptor.__get__")))
    (xtk_InvalidBlock : PySem.W.takesIn K (.builtin "object.__class__") = some true)
    (xm_InvalidBlock : PySem.W.mroIn K c_InvalidBlock (.type "object") = some true)
    (xL_InvalidText : K.lookup c_InvalidText = some (excClassObj xnm_InvalidText xq_InvalidText c_InvalidText xN_InvalidText xbs_InvalidText [.ref c_GrowError, .type "ValueError", .type "Exception", .type "BaseException", .type "object"] true xsn_InvalidText xsub_InvalidText xab_InvalidText xcol_InvalidText xdd_InvalidText m0_InvalidText m1_InvalidText m2_InvalidText m3_InvalidText m5_InvalidText "ValueError.__new__"))
    (xsa_InvalidText : PySem.W.findIn K (.ref c_InvalidText) "__setattr__" = some (some (.builtin "object.__setattr__")))
    (xga_InvalidText : PySem.W.findIn K (.ref c_InvalidText) "__getattribute__" = some (some (.builtin "BaseException.__getattribute__")))
    (xgg_InvalidText : PySem.W.findIn K (.ref c_InvalidText) "__getattr__" = some none)
    (xnf_InvalidText : PySem.W.findIn K (.ref c_InvalidText) "text" = some none)
    (xi_InvalidText : PySem.W.findIn K (.ref c_InvalidText) "__init__" = some (some (.ref i_InvalidText)))
    (xt_InvalidText : PySem.W.typeIn K (.ref i_InvalidText) = some (.type "function"))
    (xl_InvalidText : K.lookup i_InvalidText = some ⟨oc_InvalidText, od_InvalidText, .func (PySem.W.fnOf "__init__" "InvalidText.__init__" (defArgs si_InvalidText) (defBody si_InvalidText) (defScope si_InvalidText) .none kV_InvalidText dc_InvalidText pm_InvalidText an_InvalidText cd_InvalidText ct_InvalidText), sl_InvalidText⟩)
    (xc_InvalidText : PySem.W.codeIn K cd_InvalidText "InvalidText.__init__" = true)
    (xki_InvalidText : PySem.W.keepIn K (.ref i_InvalidText) = true)
    (xk_InvalidText : PySem.W.keepIn K (.ref c_InvalidText) = true)
    (xe_InvalidText : PySem.W.subIn K (.ref c_InvalidText) (.type "BaseException") = some true)
    (xty_InvalidText : PySem.W.typeIn K (.ref c_InvalidText) = some (.type "type"))
    (xh_InvalidText : PySem.W.hasDictIn K c_InvalidText = true)
    (xcl_InvalidText : PySem.W.findIn K (.ref c_InvalidText) "__class__" = some (some (.builtin "object.__class__")))
    (xsp_InvalidText : PySem.W.specialIn K (.builtin "object.__class__") "__get__" = some (some (.builtin "getset_descriptor.__get__")))
    (xtk_InvalidText : PySem.W.takesIn K (.builtin "object.__class__") = some true)
    (xm_InvalidText : PySem.W.mroIn K c_InvalidText (.type "object") = some true)
    (xL_InvalidBook : K.lookup c_InvalidBook = some (excClassObj xnm_InvalidBook xq_InvalidBook c_InvalidBook xN_InvalidBook xbs_InvalidBook [.ref c_GrowError, .type "ValueError", .type "Exception", .type "BaseException", .type "object"] true xsn_InvalidBook xsub_InvalidBook xab_InvalidBook xcol_InvalidBook xdd_InvalidBook m0_InvalidBook m1_InvalidBook m2_InvalidBook m3_InvalidBook m5_InvalidBook "ValueError.__new__"))
    (xsa_InvalidBook : PySem.W.findIn K (.ref c_InvalidBook) "__setattr__" = some (some (.builtin "object.__setattr__")))
    (xga_InvalidBook : PySem.W.findIn K (.ref c_InvalidBook) "__getattribute__" = some (some (.builtin "BaseException.__getattribute__")))
    (xgg_InvalidBook : PySem.W.findIn K (.ref c_InvalidBook) "__getattr__" = some none)
    (xnf_InvalidBook : PySem.W.findIn K (.ref c_InvalidBook) "part" = some none)
    (xi_InvalidBook : PySem.W.findIn K (.ref c_InvalidBook) "__init__" = some (some (.ref i_InvalidBook)))
    (xt_InvalidBook : PySem.W.typeIn K (.ref i_InvalidBook) = some (.type "function"))
    (xl_InvalidBook : K.lookup i_InvalidBook = some ⟨oc_InvalidBook, od_InvalidBook, .func (PySem.W.fnOf "__init__" "InvalidBook.__init__" (defArgs si_InvalidBook) (defBody si_InvalidBook) (defScope si_InvalidBook) .none kV_InvalidBook dc_InvalidBook pm_InvalidBook an_InvalidBook cd_InvalidBook ct_InvalidBook), sl_InvalidBook⟩)
    (xc_InvalidBook : PySem.W.codeIn K cd_InvalidBook "InvalidBook.__init__" = true)
    (xki_InvalidBook : PySem.W.keepIn K (.ref i_InvalidBook) = true)
    (xk_InvalidBook : PySem.W.keepIn K (.ref c_InvalidBook) = true)
    (xe_InvalidBook : PySem.W.subIn K (.ref c_InvalidBook) (.type "BaseException") = some true)
    (xty_InvalidBook : PySem.W.typeIn K (.ref c_InvalidBook) = some (.type "type"))
    (xh_InvalidBook : PySem.W.hasDictIn K c_InvalidBook = true)
    (xcl_InvalidBook : PySem.W.findIn K (.ref c_InvalidBook) "__class__" = some (some (.builtin "object.__class__")))
    (xsp_InvalidBook : PySem.W.specialIn K (.builtin "object.__class__") "__get__" = some (some (.builtin "getset_descriptor.__get__")))
    (xtk_InvalidBook : PySem.W.takesIn K (.builtin "object.__class__") = some true)
    (xm_InvalidBook : PySem.W.mroIn K c_InvalidBook (.type "object") = some true)
    (yk_TooMany_ValueError : PySem.W.kitOne K (.ref c_TooMany) (.type "ValueError") = some true)
    (yk_Refused_ValueError : PySem.W.kitOne K (.ref c_Refused) (.type "ValueError") = some true)
    (yk_NotDone_ValueError : PySem.W.kitOne K (.ref c_NotDone) (.type "ValueError") = some true)
    (yk_NotClosed_ValueError : PySem.W.kitOne K (.ref c_NotClosed) (.type "ValueError") = some true)
    (yk_Refusable_ValueError : PySem.W.kitOne K (.ref c_Refusable) (.type "ValueError") = some true)
    (yk_InvalidChoice_ValueError : PySem.W.kitOne K (.ref c_InvalidChoice) (.type "ValueError") = some true)
    (yk_UnknownSet_ValueError : PySem.W.kitOne K (.ref c_UnknownSet) (.type "ValueError") = some true)
    (yk_InvalidCommand_ValueError : PySem.W.kitOne K (.ref c_InvalidCommand) (.type "ValueError") = some true)
    (yk_InvalidSizes_ValueError : PySem.W.kitOne K (.ref c_InvalidSizes) (.type "ValueError") = some true)
    (yk_InvalidState_ValueError : PySem.W.kitOne K (.ref c_InvalidState) (.type "ValueError") = some true)
    (yk_InvalidTable_ValueError : PySem.W.kitOne K (.ref c_InvalidTable) (.type "ValueError") = some true)
    (yk_InvalidEvent_ValueError : PySem.W.kitOne K (.ref c_InvalidEvent) (.type "ValueError") = some true)
    (yk_InvalidRow_ValueError : PySem.W.kitOne K (.ref c_InvalidRow) (.type "ValueError") = some true)
    (yk_InvalidLine_ValueError : PySem.W.kitOne K (.ref c_InvalidLine) (.type "ValueError") = some true)
    (yk_NothingLeft_ValueError : PySem.W.kitOne K (.ref c_NothingLeft) (.type "ValueError") = some true)
    (yk_KnownName_ValueError : PySem.W.kitOne K (.ref c_KnownName) (.type "ValueError") = some true)
    (yk_UnknownName_ValueError : PySem.W.kitOne K (.ref c_UnknownName) (.type "ValueError") = some true)
    (yk_Closed_ValueError : PySem.W.kitOne K (.ref c_Closed) (.type "ValueError") = some true)
    (yk_Opened_ValueError : PySem.W.kitOne K (.ref c_Opened) (.type "ValueError") = some true)
    (yk_InvalidNumber_ValueError : PySem.W.kitOne K (.ref c_InvalidNumber) (.type "ValueError") = some true)
    (yk_InvalidRule_ValueError : PySem.W.kitOne K (.ref c_InvalidRule) (.type "ValueError") = some true)
    (yk_InvalidDisk_ValueError : PySem.W.kitOne K (.ref c_InvalidDisk) (.type "ValueError") = some true)
    (yk_InvalidName_ValueError : PySem.W.kitOne K (.ref c_InvalidName) (.type "ValueError") = some true)
    (yk_InvalidRuns_ValueError : PySem.W.kitOne K (.ref c_InvalidRuns) (.type "ValueError") = some true)
    (yk_InvalidBlock_ValueError : PySem.W.kitOne K (.ref c_InvalidBlock) (.type "ValueError") = some true)
    (yk_InvalidText_ValueError : PySem.W.kitOne K (.ref c_InvalidText) (.type "ValueError") = some true)
    (yk_InvalidBook_ValueError : PySem.W.kitOne K (.ref c_InvalidBook) (.type "ValueError") = some true)
    (yk_TooMany_TooMany : PySem.W.kitOne K (.ref c_TooMany) (.ref c_TooMany) = some true)
    (yk_Refused_TooMany : PySem.W.kitOne K (.ref c_Refused) (.ref c_TooMany) = some false)
    (yk_NotDone_TooMany : PySem.W.kitOne K (.ref c_NotDone) (.ref c_TooMany) = some false)
    (yk_NotClosed_TooMany : PySem.W.kitOne K (.ref c_NotClosed) (.ref c_TooMany) = some false)
    (yk_Refusable_TooMany : PySem.W.kitOne K (.ref c_Refusable) (.ref c_TooMany) = some false)
    (yk_InvalidChoice_TooMany : PySem.W.kitOne K (.ref c_InvalidChoice) (.ref c_TooMany) = some false)
    (yk_UnknownSet_TooMany : PySem.W.kitOne K (.ref c_UnknownSet) (.ref c_TooMany) = some false)
    (yk_InvalidCommand_TooMany : PySem.W.kitOne K (.ref c_InvalidCommand) (.ref c_TooMany) = some false)
    (yk_InvalidSizes_TooMany : PySem.W.kitOne K (.ref c_InvalidSizes) (.ref c_TooMany) = some false)
    (yk_InvalidState_TooMany : PySem.W.kitOne K (.ref c_InvalidState) (.ref c_TooMany) = some false)
    (yk_InvalidTable_TooMany : PySem.W.kitOne K (.ref c_InvalidTable) (.ref c_TooMany) = some false)
    (yk_InvalidEvent_TooMany : PySem.W.kitOne K (.ref c_InvalidEvent) (.ref c_TooMany) = some false)
    (yk_InvalidRow_TooMany : PySem.W.kitOne K (.ref c_InvalidRow) (.ref c_TooMany) = some false)
    (yk_InvalidLine_TooMany : PySem.W.kitOne K (.ref c_InvalidLine) (.ref c_TooMany) = some false)
    (yk_NothingLeft_TooMany : PySem.W.kitOne K (.ref c_NothingLeft) (.ref c_TooMany) = some false)
    (yk_KnownName_TooMany : PySem.W.kitOne K (.ref c_KnownName) (.ref c_TooMany) = some false)
    (yk_UnknownName_TooMany : PySem.W.kitOne K (.ref c_UnknownName) (.ref c_TooMany) = some false)
    (yk_Closed_TooMany : PySem.W.kitOne K (.ref c_Closed) (.ref c_TooMany) = some false)
    (yk_Opened_TooMany : PySem.W.kitOne K (.ref c_Opened) (.ref c_TooMany) = some false)
    (yk_InvalidNumber_TooMany : PySem.W.kitOne K (.ref c_InvalidNumber) (.ref c_TooMany) = some false)
    (yk_InvalidRule_TooMany : PySem.W.kitOne K (.ref c_InvalidRule) (.ref c_TooMany) = some false)
    (yk_InvalidDisk_TooMany : PySem.W.kitOne K (.ref c_InvalidDisk) (.ref c_TooMany) = some false)
    (yk_InvalidName_TooMany : PySem.W.kitOne K (.ref c_InvalidName) (.ref c_TooMany) = some false)
    (yk_InvalidRuns_TooMany : PySem.W.kitOne K (.ref c_InvalidRuns) (.ref c_TooMany) = some false)
    (yk_InvalidBlock_TooMany : PySem.W.kitOne K (.ref c_InvalidBlock) (.ref c_TooMany) = some false)
    (yk_InvalidText_TooMany : PySem.W.kitOne K (.ref c_InvalidText) (.ref c_TooMany) = some false)
    (yk_InvalidBook_TooMany : PySem.W.kitOne K (.ref c_InvalidBook) (.ref c_TooMany) = some false)
    (yk_TooMany_Refused : PySem.W.kitOne K (.ref c_TooMany) (.ref c_Refused) = some false)
    (yk_Refused_Refused : PySem.W.kitOne K (.ref c_Refused) (.ref c_Refused) = some true)
    (yk_NotDone_Refused : PySem.W.kitOne K (.ref c_NotDone) (.ref c_Refused) = some false)
    (yk_NotClosed_Refused : PySem.W.kitOne K (.ref c_NotClosed) (.ref c_Refused) = some false)
    (yk_Refusable_Refused : PySem.W.kitOne K (.ref c_Refusable) (.ref c_Refused) = some false)
    (yk_InvalidChoice_Refused : PySem.W.kitOne K (.ref c_InvalidChoice) (.ref c_Refused) = some false)
    (yk_UnknownSet_Refused : PySem.W.kitOne K (.ref c_UnknownSet) (.ref c_Refused) = some false)
    (yk_InvalidCommand_Refused : PySem.W.kitOne K (.ref c_InvalidCommand) (.ref c_Refused) = some false)
    (yk_InvalidSizes_Refused : PySem.W.kitOne K (.ref c_InvalidSizes) (.ref c_Refused) = some false)
    (yk_InvalidState_Refused : PySem.W.kitOne K (.ref c_InvalidState) (.ref c_Refused) = some false)
    (yk_InvalidTable_Refused : PySem.W.kitOne K (.ref c_InvalidTable) (.ref c_Refused) = some false)
    (yk_InvalidEvent_Refused : PySem.W.kitOne K (.ref c_InvalidEvent) (.ref c_Refused) = some false)
    (yk_InvalidRow_Refused : PySem.W.kitOne K (.ref c_InvalidRow) (.ref c_Refused) = some false)
    (yk_InvalidLine_Refused : PySem.W.kitOne K (.ref c_InvalidLine) (.ref c_Refused) = some false)
    (yk_NothingLeft_Refused : PySem.W.kitOne K (.ref c_NothingLeft) (.ref c_Refused) = some false)
    (yk_KnownName_Refused : PySem.W.kitOne K (.ref c_KnownName) (.ref c_Refused) = some false)
    (yk_UnknownName_Refused : PySem.W.kitOne K (.ref c_UnknownName) (.ref c_Refused) = some false)
    (yk_Closed_Refused : PySem.W.kitOne K (.ref c_Closed) (.ref c_Refused) = some false)
    (yk_Opened_Refused : PySem.W.kitOne K (.ref c_Opened) (.ref c_Refused) = some false)
    (yk_InvalidNumber_Refused : PySem.W.kitOne K (.ref c_InvalidNumber) (.ref c_Refused) = some false)
    (yk_InvalidRule_Refused : PySem.W.kitOne K (.ref c_InvalidRule) (.ref c_Refused) = some false)
    (yk_InvalidDisk_Refused : PySem.W.kitOne K (.ref c_InvalidDisk) (.ref c_Refused) = some false)
    (yk_InvalidName_Refused : PySem.W.kitOne K (.ref c_InvalidName) (.ref c_Refused) = some false)
    (yk_InvalidRuns_Refused : PySem.W.kitOne K (.ref c_InvalidRuns) (.ref c_Refused) = some false)
    (yk_InvalidBlock_Refused : PySem.W.kitOne K (.ref c_InvalidBlock) (.ref c_Refused) = some false)
    (yk_InvalidText_Refused : PySem.W.kitOne K (.ref c_InvalidText) (.ref c_Refused) = some false)
    (yk_InvalidBook_Refused : PySem.W.kitOne K (.ref c_InvalidBook) (.ref c_Refused) = some false)
    (yk_TooMany_NotDone : PySem.W.kitOne K (.ref c_TooMany) (.ref c_NotDone) = some false)
    (yk_Refused_NotDone : PySem.W.kitOne K (.ref c_Refused) (.ref c_NotDone) = some false)
    (yk_NotDone_NotDone : PySem.W.kitOne K (.ref c_NotDone) (.ref c_NotDone) = some true)
    (yk_NotClosed_NotDone : PySem.W.kitOne K (.ref c_NotClosed) (.ref c_NotDone) = some false)
    (yk_Refusable_NotDone : PySem.W.kitOne K (.ref c_Refusable) (.ref c_NotDone) = some false)
    (yk_InvalidChoice_NotDone : PySem.W.kitOne K (.ref c_InvalidChoice) (.ref c_NotDone) = some false)
    (yk_UnknownSet_NotDone : PySem.W.kitOne K (.ref c_UnknownSet) (.ref c_NotDone) = some false)
    (yk_InvalidCommand_NotDone : PySem.W.kitOne K (.ref c_InvalidCommand) (.ref c_NotDone) = some false)
    (yk_InvalidSizes_NotDone : PySem.W.kitOne K (.ref c_InvalidSizes) (.ref c_NotDone) = some false)
    (yk_InvalidState_NotDone : PySem.W.kitOne K (.ref c_InvalidState) (.ref c_NotDone) = some false)
    (yk_InvalidTable_NotDone : PySem.W.kitOne K (.ref c_InvalidTable) (.ref c_NotDone) = some false)
    (yk_InvalidEvent_NotDone : PySem.W.kitOne K (.ref c_InvalidEvent) (.ref c_NotDone) = some false)
    (yk_InvalidRow_NotDone : PySem.W.kitOne K (.ref c_InvalidRow) (.ref c_NotDone) = some false)
    (yk_InvalidLine_NotDone : PySem.W.kitOne K (.ref c_InvalidLine) (.ref c_NotDone) = some false)
    (yk_NothingLeft_NotDone : PySem.W.kitOne K (.ref c_NothingLeft) (.ref c_NotDone) = some false)
    (yk_KnownName_NotDone : PySem.W.kitOne K (.ref c_KnownName) (.ref c_NotDone) = some false)
    (yk_UnknownName_NotDone : PySem.W.kitOne K (.ref c_UnknownName) (.ref c_NotDone) = some false)
    (yk_Closed_NotDone : PySem.W.kitOne K (.ref c_Closed) (.ref c_NotDone) = some false)
    (yk_Opened_NotDone : PySem.W.kitOne K (.ref c_Opened) (.ref c_NotDone) = some false)
    (yk_InvalidNumber_NotDone : PySem.W.kitOne K (.ref c_InvalidNumber) (.ref c_NotDone) = some false)
    (yk_InvalidRule_NotDone : PySem.W.kitOne K (.ref c_InvalidRule) (.ref c_NotDone) = some false)
    (yk_InvalidDisk_NotDone : PySem.W.kitOne K (.ref c_InvalidDisk) (.ref c_NotDone) = some false)
    (yk_InvalidName_NotDone : PySem.W.kitOne K (.ref c_InvalidName) (.ref c_NotDone) = some false)
    (yk_InvalidRuns_NotDone : PySem.W.kitOne K (.ref c_InvalidRuns) (.ref c_NotDone) = some false)
    (yk_InvalidBlock_NotDone : PySem.W.kitOne K (.ref c_InvalidBlock) (.ref c_NotDone) = some false)
    (yk_InvalidText_NotDone : PySem.W.kitOne K (.ref c_InvalidText) (.ref c_NotDone) = some false)
    (yk_InvalidBook_NotDone : PySem.W.kitOne K (.ref c_InvalidBook) (.ref c_NotDone) = some false)
    (yk_TooMany_Refusable : PySem.W.kitOne K (.ref c_TooMany) (.ref c_Refusable) = some false)
    (yk_Refused_Refusable : PySem.W.kitOne K (.ref c_Refused) (.ref c_Refusable) = some false)
    (yk_NotDone_Refusable : PySem.W.kitOne K (.ref c_NotDone) (.ref c_Refusable) = some false)
    (yk_NotClosed_Refusable : PySem.W.kitOne K (.ref c_NotClosed) (.ref c_Refusable) = some false)
    (yk_Refusable_Refusable : PySem.W.kitOne K (.ref c_Refusable) (.ref c_Refusable) = some true)
    (yk_InvalidChoice_Refusable : PySem.W.kitOne K (.ref c_InvalidChoice) (.ref c_Refusable) = some false)
    (yk_UnknownSet_Refusable : PySem.W.kitOne K (.ref c_UnknownSet) (.ref c_Refusable) = some false)
    (yk_InvalidCommand_Refusable : PySem.W.kitOne K (.ref c_InvalidCommand) (.ref c_Refusable) = some false)
    (yk_InvalidSizes_Refusable : PySem.W.kitOne K (.ref c_InvalidSizes) (.ref c_Refusable) = some false)
    (yk_InvalidState_Refusable : PySem.W.kitOne K (.ref c_InvalidState) (.ref c_Refusable) = some false)
    (yk_InvalidTable_Refusable : PySem.W.kitOne K (.ref c_InvalidTable) (.ref c_Refusable) = some false)
    (yk_InvalidEvent_Refusable : PySem.W.kitOne K (.ref c_InvalidEvent) (.ref c_Refusable) = some false)
    (yk_InvalidRow_Refusable : PySem.W.kitOne K (.ref c_InvalidRow) (.ref c_Refusable) = some false)
    (yk_InvalidLine_Refusable : PySem.W.kitOne K (.ref c_InvalidLine) (.ref c_Refusable) = some false)
    (yk_NothingLeft_Refusable : PySem.W.kitOne K (.ref c_NothingLeft) (.ref c_Refusable) = some false)
    (yk_KnownName_Refusable : PySem.W.kitOne K (.ref c_KnownName) (.ref c_Refusable) = some false)
    (yk_UnknownName_Refusable : PySem.W.kitOne K (.ref c_UnknownName) (.ref c_Refusable) = some false)
    (yk_Closed_Refusable : PySem.W.kitOne K (.ref c_Closed) (.ref c_Refusable) = some false)
    (yk_Opened_Refusable : PySem.W.kitOne K (.ref c_Opened) (.ref c_Refusable) = some false)
    (yk_InvalidNumber_Refusable : PySem.W.kitOne K (.ref c_InvalidNumber) (.ref c_Refusable) = some false)
    (yk_InvalidRule_Refusable : PySem.W.kitOne K (.ref c_InvalidRule) (.ref c_Refusable) = some false)
    (yk_InvalidDisk_Refusable : PySem.W.kitOne K (.ref c_InvalidDisk) (.ref c_Refusable) = some false)
    (yk_InvalidName_Refusable : PySem.W.kitOne K (.ref c_InvalidName) (.ref c_Refusable) = some false)
    (yk_InvalidRuns_Refusable : PySem.W.kitOne K (.ref c_InvalidRuns) (.ref c_Refusable) = some false)
    (yk_InvalidBlock_Refusable : PySem.W.kitOne K (.ref c_InvalidBlock) (.ref c_Refusable) = some false)
    (yk_InvalidText_Refusable : PySem.W.kitOne K (.ref c_InvalidText) (.ref c_Refusable) = some false)
    (yk_InvalidBook_Refusable : PySem.W.kitOne K (.ref c_InvalidBook) (.ref c_Refusable) = some false)
    (yk_TooMany_InvalidChoice : PySem.W.kitOne K (.ref c_TooMany) (.ref c_InvalidChoice) = some false)
    (yk_Refused_InvalidChoice : PySem.W.kitOne K (.ref c_Refused) (.ref c_InvalidChoice) = some false)
    (yk_NotDone_InvalidChoice : PySem.W.kitOne K (.ref c_NotDone) (.ref c_InvalidChoice) = some false)
    (yk_NotClosed_InvalidChoice : PySem.W.kitOne K (.ref c_NotClosed) (.ref c_InvalidChoice) = some false)
    (yk_Refusable_InvalidChoice : PySem.W.kitOne K (.ref c_Refusable) (.ref c_InvalidChoice) = some false)
    (yk_InvalidChoice_InvalidChoice : PySem.W.kitOne K (.ref c_InvalidChoice) (.ref c_InvalidChoice) = some true)
    (yk_UnknownSet_InvalidChoice : PySem.W.kitOne K (.ref c_UnknownSet) (.ref c_InvalidChoice) = some false)
    (yk_InvalidCommand_InvalidChoice : PySem.W.kitOne K (.ref c_InvalidCommand) (.ref c_InvalidChoice) = some false)
    (yk_InvalidSizes_InvalidChoice : PySem.W.kitOne K (.ref c_InvalidSizes) (.ref c_InvalidChoice) = some false)
    (yk_InvalidState_InvalidChoice : PySem.W.kitOne K (.ref c_InvalidState) (.ref c_InvalidChoice) = some false)
    (yk_InvalidTable_InvalidChoice : PySem.W.kitOne K (.ref c_InvalidTable) (.ref c_InvalidChoice) = some false)
    (yk_InvalidEvent_InvalidChoice : PySem.W.kitOne K (.ref c_InvalidEvent) (.ref c_InvalidChoice) = some false)
    (yk_InvalidRow_InvalidChoice : PySem.W.kitOne K (.ref c_InvalidRow) (.ref c_InvalidChoice) = some false)
    (yk_InvalidLine_InvalidChoice : PySem.W.kitOne K (.ref c_InvalidLine) (.ref c_InvalidChoice) = some false)
    (yk_NothingLeft_InvalidChoice : PySem.W.kitOne K (.ref c_NothingLeft) (.ref c_InvalidChoice) = some false)
    (yk_KnownName_InvalidChoice : PySem.W.kitOne K (.ref c_KnownName) (.ref c_InvalidChoice) = some false)
    (yk_UnknownName_InvalidChoice : PySem.W.kitOne K (.ref c_UnknownName) (.ref c_InvalidChoice) = some false)
    (yk_Closed_InvalidChoice : PySem.W.kitOne K (.ref c_Closed) (.ref c_InvalidChoice) = some false)
    (yk_Opened_InvalidChoice : PySem.W.kitOne K (.ref c_Opened) (.ref c_InvalidChoice) = some false)
    (yk_InvalidNumber_InvalidChoice : PySem.W.kitOne K (.ref c_InvalidNumber) (.ref c_InvalidChoice) = some false)
    (yk_InvalidRule_InvalidChoice : PySem.W.kitOne K (.ref c_InvalidRule) (.ref c_InvalidChoice) = some false)
    (yk_InvalidDisk_InvalidChoice : PySem.W.kitOne K (.ref c_InvalidDisk) (.ref c_InvalidChoice) = some false)
    (yk_InvalidName_InvalidChoice : PySem.W.kitOne K (.ref c_InvalidName) (.ref c_InvalidChoice) = some false)
    (yk_InvalidRuns_InvalidChoice : PySem.W.kitOne K (.ref c_InvalidRuns) (.ref c_InvalidChoice) = some false)
    (yk_InvalidBlock_InvalidChoice : PySem.W.kitOne K (.ref c_InvalidBlock) (.ref c_InvalidChoice) = some false)
    (yk_InvalidText_InvalidChoice : PySem.W.kitOne K (.ref c_InvalidText) (.ref c_InvalidChoice) = some false)
    (yk_InvalidBook_InvalidChoice : PySem.W.kitOne K (.ref c_InvalidBook) (.ref c_InvalidChoice) = some false)
    (yk_TooMany_UnknownSet : PySem.W.kitOne K (.ref c_TooMany) (.ref c_UnknownSet) = some false)
    (yk_Refused_UnknownSet : PySem.W.kitOne K (.ref c_Refused) (.ref c_UnknownSet) = some false)
    (yk_NotDone_UnknownSet : PySem.W.kitOne K (.ref c_NotDone) (.ref c_UnknownSet) = some false)
    (yk_NotClosed_UnknownSet : PySem.W.kitOne K (.ref c_NotClosed) (.ref c_UnknownSet) = some false)
    (yk_Refusable_UnknownSet : PySem.W.kitOne K (.ref c_Refusable) (.ref c_UnknownSet) = some false)
    (yk_InvalidChoice_UnknownSet : PySem.W.kitOne K (.ref c_InvalidChoice) (.ref c_UnknownSet) = some false)
    (yk_UnknownSet_UnknownSet : PySem.W.kitOne K (.ref c_UnknownSet) (.ref c_UnknownSet) = some true)
    (yk_InvalidCommand_UnknownSet : PySem.W.kitOne K (.ref c_InvalidCommand) (.ref c_UnknownSet) = some false)
    (yk_InvalidSizes_UnknownSet : PySem.W.kitOne K (.ref c_InvalidSizes) (.ref c_UnknownSet) = some false)
    (yk_InvalidState_UnknownSet : PySem.W.kitOne K (.ref c_InvalidState) (.ref c_UnknownSet) = some false)
    (yk_InvalidTable_UnknownSet : PySem.W.kitOne K (.ref c_InvalidTable) (.ref c_UnknownSet) = some false)
    (yk_InvalidEvent_UnknownSet : PySem.W.kitOne K (.ref c_InvalidEvent) (.ref c_UnknownSet) = some false)
    (yk_InvalidRow_UnknownSet : PySem.W.kitOne K (.ref c_InvalidRow) (.ref c_UnknownSet) = some false)
    (yk_InvalidLine_UnknownSet : PySem.W.kitOne K (.ref c_InvalidLine) (.ref c_UnknownSet) = some false)
    (yk_NothingLeft_UnknownSet : PySem.W.kitOne K (.ref c_NothingLeft) (.ref c_UnknownSet) = some false)
    (yk_KnownName_UnknownSet : PySem.W.kitOne K (.ref c_KnownName) (.ref c_UnknownSet) = some false)
    (yk_UnknownName_UnknownSet : PySem.W.kitOne K (.ref c_UnknownName) (.ref c_UnknownSet) = some false)
    (yk_Closed_UnknownSet : PySem.W.kitOne K (.ref c_Closed) (.ref c_UnknownSet) = some false)
    (yk_Opened_UnknownSet : PySem.W.kitOne K (.ref c_Opened) (.ref c_UnknownSet) = some false)
    (yk_InvalidNumber_UnknownSet : PySem.W.kitOne K (.ref c_InvalidNumber) (.ref c_UnknownSet) = some false)
    (yk_InvalidRule_UnknownSet : PySem.W.kitOne K (.ref c_InvalidRule) (.ref c_UnknownSet) = some false)
    (yk_InvalidDisk_UnknownSet : PySem.W.kitOne K (.ref c_InvalidDisk) (.ref c_UnknownSet) = some false)
    (yk_InvalidName_UnknownSet : PySem.W.kitOne K (.ref c_InvalidName) (.ref c_UnknownSet) = some false)
    (yk_InvalidRuns_UnknownSet : PySem.W.kitOne K (.ref c_InvalidRuns) (.ref c_UnknownSet) = some false)
    (yk_InvalidBlock_UnknownSet : PySem.W.kitOne K (.ref c_InvalidBlock) (.ref c_UnknownSet) = some false)
    (yk_InvalidText_UnknownSet : PySem.W.kitOne K (.ref c_InvalidText) (.ref c_UnknownSet) = some false)
    (yk_InvalidBook_UnknownSet : PySem.W.kitOne K (.ref c_InvalidBook) (.ref c_UnknownSet) = some false)
    (yk_TooMany_InvalidState : PySem.W.kitOne K (.ref c_TooMany) (.ref c_InvalidState) = some false)
    (yk_Refused_InvalidState : PySem.W.kitOne K (.ref c_Refused) (.ref c_InvalidState) = some false)
    (yk_NotDone_InvalidState : PySem.W.kitOne K (.ref c_NotDone) (.ref c_InvalidState) = some false)
    (yk_NotClosed_InvalidState : PySem.W.kitOne K (.ref c_NotClosed) (.ref c_InvalidState) = some false)
    (yk_Refusable_InvalidState : PySem.W.kitOne K (.ref c_Refusable) (.ref c_InvalidState) = some false)
    (yk_InvalidChoice_InvalidState : PySem.W.kitOne K (.ref c_InvalidChoice) (.ref c_InvalidState) = some false)
    (yk_UnknownSet_InvalidState : PySem.W.kitOne K (.ref c_UnknownSet) (.ref c_InvalidState) = some false)
    (yk_InvalidCommand_InvalidState : PySem.W.kitOne K (.ref c_InvalidCommand) (.ref c_InvalidState) = some false)
    (yk_InvalidSizes_InvalidState : PySem.W.kitOne K (.ref c_InvalidSizes) (.ref c_InvalidState) = some false)
    (yk_InvalidState_InvalidState : PySem.W.kitOne K (.ref c_InvalidState) (.ref c_InvalidState) = some true)
    (yk_InvalidTable_InvalidState : PySem.W.kitOne K (.ref c_InvalidTable) (.ref c_InvalidState) = some false)
    (yk_InvalidEvent_InvalidState : PySem.W.kitOne K (.ref c_InvalidEvent) (.ref c_InvalidState) = some false)
    (yk_InvalidRow_InvalidState : PySem.W.kitOne K (.ref c_InvalidRow) (.ref c_InvalidState) = some false)
    (yk_InvalidLine_InvalidState : PySem.W.kitOne K (.ref c_InvalidLine) (.ref c_InvalidState) = some false)
    (yk_NothingLeft_InvalidState : PySem.W.kitOne K (.ref c_NothingLeft) (.ref c_InvalidState) = some false)
    (yk_KnownName_InvalidState : PySem.W.kitOne K (.ref c_KnownName) (.ref c_InvalidState) = some false)
    (yk_UnknownName_InvalidState : PySem.W.kitOne K (.ref c_UnknownName) (.ref c_InvalidState) = some false)
    (yk_Closed_InvalidState : PySem.W.kitOne K (.ref c_Closed) (.ref c_InvalidState) = some false)
    (yk_Opened_InvalidState : PySem.W.kitOne K (.ref c_Opened) (.ref c_InvalidState) = some false)
    (yk_InvalidNumber_InvalidState : PySem.W.kitOne K (.ref c_InvalidNumber) (.ref c_InvalidState) = some false)
    (yk_InvalidRule_InvalidState : PySem.W.kitOne K (.ref c_InvalidRule) (.ref c_InvalidState) = some false)
    (yk_InvalidDisk_InvalidState : PySem.W.kitOne K (.ref c_InvalidDisk) (.ref c_InvalidState) = some false)
    (yk_InvalidName_InvalidState : PySem.W.kitOne K (.ref c_InvalidName) (.ref c_InvalidState) = some false)
    (yk_InvalidRuns_InvalidState : PySem.W.kitOne K (.ref c_InvalidRuns) (.ref c_InvalidState) = some false)
    (yk_InvalidBlock_InvalidState : PySem.W.kitOne K (.ref c_InvalidBlock) (.ref c_InvalidState) = some false)
    (yk_InvalidText_InvalidState : PySem.W.kitOne K (.ref c_InvalidText) (.ref c_InvalidState) = some false)
    (yk_InvalidBook_InvalidState : PySem.W.kitOne K (.ref c_InvalidBook) (.ref c_InvalidState) = some false)
    (yk_TooMany_InvalidTable : PySem.W.kitOne K (.ref c_TooMany) (.ref c_InvalidTable) = some false)
    (yk_Refused_InvalidTable : PySem.W.kitOne K (.ref c_Refused) (.ref c_InvalidTable) = some false)
    (yk_NotDone_InvalidTable : PySem.W.kitOne K (.ref c_NotDone) (.ref c_InvalidTable) = some false)
    (yk_NotClosed_InvalidTable : PySem.W.kitOne K (.ref c_NotClosed) (.ref c_InvalidTable) = some false)
    (yk_Refusable_InvalidTable : PySem.W.kitOne K (.ref c_Refusable) (.ref c_InvalidTable) = some false)
    (yk_InvalidChoice_InvalidTable : PySem.W.kitOne K (.ref c_InvalidChoice) (.ref c_InvalidTable) = some false)
    (yk_UnknownSet_InvalidTable : PySem.W.kitOne K (.ref c_UnknownSet) (.ref c_InvalidTable) = some false)
    (yk_InvalidCommand_InvalidTable : PySem.W.kitOne K (.ref c_InvalidCommand) (.ref c_InvalidTable) = some false)
    (yk_InvalidSizes_InvalidTable : PySem.W.kitOne K (.ref c_InvalidSizes) (.ref c_InvalidTable) = some false)
    (yk_InvalidState_InvalidTable : PySem.W.kitOne K (.ref c_InvalidState) (.ref c_InvalidTable) = some false)
    (yk_InvalidTable_InvalidTable : PySem.W.kitOne K (.ref c_InvalidTable) (.ref c_InvalidTable) = some true)
    (yk_InvalidEvent_InvalidTable : PySem.W.kitOne K (.ref c_InvalidEvent) (.ref c_InvalidTable) = some false)
    (yk_InvalidRow_InvalidTable : PySem.W.kitOne K (.ref c_InvalidRow) (.ref c_InvalidTable) = some false)
    (yk_InvalidLine_InvalidTable : PySem.W.kitOne K (.ref c_InvalidLine) (.ref c_InvalidTable) = some false)
    (yk_NothingLeft_InvalidTable : PySem.W.kitOne K (.ref c_NothingLeft) (.ref c_InvalidTable) = some false)
    (yk_KnownName_InvalidTable : PySem.W.kitOne K (.ref c_KnownName) (.ref c_InvalidTable) = some false)
    (yk_UnknownName_InvalidTable : PySem.W.kitOne K (.ref c_UnknownName) (.ref c_InvalidTable) = some false)
    (yk_Closed_InvalidTable : PySem.W.kitOne K (.ref c_Closed) (.ref c_InvalidTable) = some false)
    (yk_Opened_InvalidTable : PySem.W.kitOne K (.ref c_Opened) (.ref c_InvalidTable) = some false)
    (yk_InvalidNumber_InvalidTable : PySem.W.kitOne K (.ref c_InvalidNumber) (.ref c_InvalidTable) = some false)
    (yk_InvalidRule_InvalidTable : PySem.W.kitOne K (.ref c_InvalidRule) (.ref c_InvalidTable) = some false)
    (yk_InvalidDisk_InvalidTable : PySem.W.kitOne K (.ref c_InvalidDisk) (.ref c_InvalidTable) = some false)
    (yk_InvalidName_InvalidTable : PySem.W.kitOne K (.ref c_InvalidName) (.ref c_InvalidTable) = some false)
    (yk_InvalidRuns_InvalidTable : PySem.W.kitOne K (.ref c_InvalidRuns) (.ref c_InvalidTable) = some false)
    (yk_InvalidBlock_InvalidTable : PySem.W.kitOne K (.ref c_InvalidBlock) (.ref c_InvalidTable) = some false)
    (yk_InvalidText_InvalidTable : PySem.W.kitOne K (.ref c_InvalidText) (.ref c_InvalidTable) = some false)
    (yk_InvalidBook_InvalidTable : PySem.W.kitOne K (.ref c_InvalidBook) (.ref c_InvalidTable) = some false)
    (yk_TooMany_NotClosed : PySem.W.kitOne K (.ref c_TooMany) (.ref c_NotClosed) = some false)
    (yk_Refused_NotClosed : PySem.W.kitOne K (.ref c_Refused) (.ref c_NotClosed) = some false)
    (yk_NotDone_NotClosed : PySem.W.kitOne K (.ref c_NotDone) (.ref c_NotClosed) = some false)
    (yk_NotClosed_NotClosed : PySem.W.kitOne K (.ref c_NotClosed) (.ref c_NotClosed) = some true)
    (yk_Refusable_NotClosed : PySem.W.kitOne K (.ref c_Refusable) (.ref c_NotClosed) = some false)
    (yk_InvalidChoice_NotClosed : PySem.W.kitOne K (.ref c_InvalidChoice) (.ref c_NotClosed) = some false)
    (yk_UnknownSet_NotClosed : PySem.W.kitOne K (.ref c_UnknownSet) (.ref c_NotClosed) = some false)
    (yk_InvalidCommand_NotClosed : PySem.W.kitOne K (.ref c_InvalidCommand) (.ref c_NotClosed) = some false)
    (yk_InvalidSizes_NotClosed : PySem.W.kitOne K (.ref c_InvalidSizes) (.ref c_NotClosed) = some false)
    (yk_InvalidState_NotClosed : PySem.W.kitOne K (.ref c_InvalidState) (.ref c_NotClosed) = some false)
    (yk_InvalidTable_NotClosed : PySem.W.kitOne K (.ref c_InvalidTable) (.ref c_NotClosed) = some false)
    (yk_InvalidEvent_NotClosed : PySem.W.kitOne K (.ref c_InvalidEvent) (.ref c_NotClosed) = some false)
    (yk_InvalidRow_NotClosed : PySem.W.kitOne K (.ref c_InvalidRow) (.ref c_NotClosed) = some false)
    (yk_InvalidLine_NotClosed : PySem.W.kitOne K (.ref c_InvalidLine) (.ref c_NotClosed) = some false)
    (yk_NothingLeft_NotClosed : PySem.W.kitOne K (.ref c_NothingLeft) (.ref c_NotClosed) = some false)
    (yk_KnownName_NotClosed : PySem.W.kitOne K (.ref c_KnownName) (.ref c_NotClosed) = some false)
    (yk_UnknownName_NotClosed : PySem.W.kitOne K (.ref c_UnknownName) (.ref c_NotClosed) = some false)
    (yk_Closed_NotClosed : PySem.W.kitOne K (.ref c_Closed) (.ref c_NotClosed) = some false)
    (yk_Opened_NotClosed : PySem.W.kitOne K (.ref c_Opened) (.ref c_NotClosed) = some false)
    (yk_InvalidNumber_NotClosed : PySem.W.kitOne K (.ref c_InvalidNumber) (.ref c_NotClosed) = some false)
    (yk_InvalidRule_NotClosed : PySem.W.kitOne K (.ref c_InvalidRule) (.ref c_NotClosed) = some false)
    (yk_InvalidDisk_NotClosed : PySem.W.kitOne K (.ref c_InvalidDisk) (.ref c_NotClosed) = some false)
    (yk_InvalidName_NotClosed : PySem.W.kitOne K (.ref c_InvalidName) (.ref c_NotClosed) = some false)
    (yk_InvalidRuns_NotClosed : PySem.W.kitOne K (.ref c_InvalidRuns) (.ref c_NotClosed) = some false)
    (yk_InvalidBlock_NotClosed : PySem.W.kitOne K (.ref c_InvalidBlock) (.ref c_NotClosed) = some false)
    (yk_InvalidText_NotClosed : PySem.W.kitOne K (.ref c_InvalidText) (.ref c_NotClosed) = some false)
    (yk_InvalidBook_NotClosed : PySem.W.kitOne K (.ref c_InvalidBook) (.ref c_NotClosed) = some false)
    (yk_TooMany_NothingLeft : PySem.W.kitOne K (.ref c_TooMany) (.ref c_NothingLeft) = some false)
    (yk_Refused_NothingLeft : PySem.W.kitOne K (.ref c_Refused) (.ref c_NothingLeft) = some false)
    (yk_NotDone_NothingLeft : PySem.W.kitOne K (.ref c_NotDone) (.ref c_NothingLeft) = some false)
    (yk_NotClosed_NothingLeft : PySem.W.kitOne K (.ref c_NotClosed) (.ref c_NothingLeft) = some false)
    (yk_Refusable_NothingLeft : PySem.W.kitOne K (.ref c_Refusable) (.ref c_NothingLeft) = some false)
    (yk_InvalidChoice_NothingLeft : PySem.W.kitOne K (.ref c_InvalidChoice) (.ref c_NothingLeft) = some false)
    (yk_UnknownSet_NothingLeft : PySem.W.kitOne K (.ref c_UnknownSet) (.ref c_NothingLeft) = some false)
    (yk_InvalidCommand_NothingLeft : PySem.W.kitOne K (.ref c_InvalidCommand) (.ref c_NothingLeft) = some false)
    (yk_InvalidSizes_NothingLeft : PySem.W.kitOne K (.ref c_InvalidSizes) (.ref c_NothingLeft) = some false)
    (yk_InvalidState_NothingLeft : PySem.W.kitOne K (.ref c_InvalidState) (.ref c_NothingLeft) = some false)
    (yk_InvalidTable_NothingLeft : PySem.W.kitOne K (.ref c_InvalidTable) (.ref c_NothingLeft) = some false)
    (yk_InvalidEvent_NothingLeft : PySem.W.kitOne K (.ref c_InvalidEvent) (.ref c_NothingLeft) = some false)
    (yk_InvalidRow_NothingLeft : PySem.W.kitOne K (.ref c_InvalidRow) (.ref c_NothingLeft) = some false)
    (yk_InvalidLine_NothingLeft : PySem.W.kitOne K (.ref c_InvalidLine) (.ref c_NothingLeft) = some false)
    (yk_NothingLeft_NothingLeft : PySem.W.kitOne K (.ref c_NothingLeft) (.ref c_NothingLeft) = some true)
    (yk_KnownName_NothingLeft : PySem.W.kitOne K (.ref c_KnownName) (.ref c_NothingLeft) = some false)
    (yk_UnknownName_NothingLeft : PySem.W.kitOne K (.ref c_UnknownName) (.ref c_NothingLeft) = some false)
    (yk_Closed_NothingLeft : PySem.W.kitOne K (.ref c_Closed) (.ref c_NothingLeft) = some false)
    (yk_Opened_NothingLeft : PySem.W.kitOne K (.ref c_Opened) (.ref c_NothingLeft) = some false)
    (yk_InvalidNumber_NothingLeft : PySem.W.kitOne K (.ref c_InvalidNumber) (.ref c_NothingLeft) = some false)
    (yk_InvalidRule_NothingLeft : PySem.W.kitOne K (.ref c_InvalidRule) (.ref c_NothingLeft) = some false)
    (yk_InvalidDisk_NothingLeft : PySem.W.kitOne K (.ref c_InvalidDisk) (.ref c_NothingLeft) = some false)
    (yk_InvalidName_NothingLeft : PySem.W.kitOne K (.ref c_InvalidName) (.ref c_NothingLeft) = some false)
    (yk_InvalidRuns_NothingLeft : PySem.W.kitOne K (.ref c_InvalidRuns) (.ref c_NothingLeft) = some false)
    (yk_InvalidBlock_NothingLeft : PySem.W.kitOne K (.ref c_InvalidBlock) (.ref c_NothingLeft) = some false)
    (yk_InvalidText_NothingLeft : PySem.W.kitOne K (.ref c_InvalidText) (.ref c_NothingLeft) = some false)
    (yk_InvalidBook_NothingLeft : PySem.W.kitOne K (.ref c_InvalidBook) (.ref c_NothingLeft) = some false)
    (yk_TooMany_InvalidCommand : PySem.W.kitOne K (.ref c_TooMany) (.ref c_InvalidCommand) = some false)
    (yk_Refused_InvalidCommand : PySem.W.kitOne K (.ref c_Refused) (.ref c_InvalidCommand) = some false)
    (yk_NotDone_InvalidCommand : PySem.W.kitOne K (.ref c_NotDone) (.ref c_InvalidCommand) = some false)
    (yk_NotClosed_InvalidCommand : PySem.W.kitOne K (.ref c_NotClosed) (.ref c_InvalidCommand) = some false)
    (yk_Refusable_InvalidCommand : PySem.W.kitOne K (.ref c_Refusable) (.ref c_InvalidCommand) = some false)
    (yk_InvalidChoice_InvalidCommand : PySem.W.kitOne K (.ref c_InvalidChoice) (.ref c_InvalidCommand) = some false)
    (yk_UnknownSet_InvalidCommand : PySem.W.kitOne K (.ref c_UnknownSet) (.ref c_InvalidCommand) = some false)
    (yk_InvalidCommand_InvalidCommand : PySem.W.kitOne K (.ref c_InvalidCommand) (.ref c_InvalidCommand) = some true)
    (yk_InvalidSizes_InvalidCommand : PySem.W.kitOne K (.ref c_InvalidSizes) (.ref c_InvalidCommand) = some false)
    (yk_InvalidState_InvalidCommand : PySem.W.kitOne K (.ref c_InvalidState) (.ref c_InvalidCommand) = some false)
    (yk_InvalidTable_InvalidCommand : PySem.W.kitOne K (.ref c_InvalidTable) (.ref c_InvalidCommand) = some false)
    (yk_InvalidEvent_InvalidCommand : PySem.W.kitOne K (.ref c_InvalidEvent) (.ref c_InvalidCommand) = some false)
    (yk_InvalidRow_InvalidCommand : PySem.W.kitOne K (.ref c_InvalidRow) (.ref c_InvalidCommand) = some false)
    (yk_InvalidLine_InvalidCommand : PySem.W.kitOne K (.ref c_InvalidLine) (.ref c_InvalidCommand) = some false)
    (yk_NothingLeft_InvalidCommand : PySem.W.kitOne K (.ref c_NothingLeft) (.ref c_InvalidCommand) = some false)
    (yk_KnownName_InvalidCommand : PySem.W.kitOne K (.ref c_KnownName) (.ref c_InvalidCommand) = some false)
    (yk_UnknownName_InvalidCommand : PySem.W.kitOne K (.ref c_UnknownName) (.ref c_InvalidCommand) = some false)
    (yk_Closed_InvalidCommand : PySem.W.kitOne K (.ref c_Closed) (.ref c_InvalidCommand) = some false)
    (yk_Opened_InvalidCommand : PySem.W.kitOne K (.ref c_Opened) (.ref c_InvalidCommand) = some false)
    (yk_InvalidNumber_InvalidCommand : PySem.W.kitOne K (.ref c_InvalidNumber) (.ref c_InvalidCommand) = some false)
    (yk_InvalidRule_InvalidCommand : PySem.W.kitOne K (.ref c_InvalidRule) (.ref c_InvalidCommand) = some false)
    (yk_InvalidDisk_InvalidCommand : PySem.W.kitOne K (.ref c_InvalidDisk) (.ref c_InvalidCommand) = some false)
    (yk_InvalidName_InvalidCommand : PySem.W.kitOne K (.ref c_InvalidName) (.ref c_InvalidCommand) = some false)
    (yk_InvalidRuns_InvalidCommand : PySem.W.kitOne K (.ref c_InvalidRuns) (.ref c_InvalidCommand) = some false)
    (yk_InvalidBlock_InvalidCommand : PySem.W.kitOne K (.ref c_InvalidBlock) (.ref c_InvalidCommand) = some false)
    (yk_InvalidText_InvalidCommand : PySem.W.kitOne K (.ref c_InvalidText) (.ref c_InvalidCommand) = some false)
    (yk_InvalidBook_InvalidCommand : PySem.W.kitOne K (.ref c_InvalidBook) (.ref c_InvalidCommand) = some false)
    (yk_TooMany_InvalidSizes : PySem.W.kitOne K (.ref c_TooMany) (.ref c_InvalidSizes) = some false)
    (yk_Refused_InvalidSizes : PySem.W.kitOne K (.ref c_Refused) (.ref c_InvalidSizes) = some false)
    (yk_NotDone_InvalidSizes : PySem.W.kitOne K (.ref c_NotDone) (.ref c_InvalidSizes) = some false)
    (yk_NotClosed_InvalidSizes : PySem.W.kitOne K (.ref c_NotClosed) (.ref c_InvalidSizes) = some false)
    (yk_Refusable_InvalidSizes : PySem.W.kitOne K (.ref c_Refusable) (.ref c_InvalidSizes) = some false)
    (yk_InvalidChoice_InvalidSizes : PySem.W.kitOne K (.ref c_InvalidChoice) (.ref c_InvalidSizes) = some false)
    (yk_UnknownSet_InvalidSizes : PySem.W.kitOne K (.ref c_UnknownSet) (.ref c_InvalidSizes) = some false)
    (yk_InvalidCommand_InvalidSizes : PySem.W.kitOne K (.ref c_InvalidCommand) (.ref c_InvalidSizes) = some false)
    (yk_InvalidSizes_InvalidSizes : PySem.W.kitOne K (.ref c_InvalidSizes) (.ref c_InvalidSizes) = some true)
    (yk_InvalidState_InvalidSizes : PySem.W.kitOne K (.ref c_InvalidState) (.ref c_InvalidSizes) = some false)
    (yk_InvalidTable_InvalidSizes : PySem.W.kitOne K (.ref c_InvalidTable) (.ref c_InvalidSizes) = some false)
    (yk_InvalidEvent_InvalidSizes : PySem.W.kitOne K (.ref c_InvalidEvent) (.ref c_InvalidSizes) = some false)
    (yk_InvalidRow_InvalidSizes : PySem.W.kitOne K (.ref c_InvalidRow) (.ref c_InvalidSizes) = some false)
    (yk_InvalidLine_InvalidSizes : PySem.W.kitOne K (.ref c_InvalidLine) (.ref c_InvalidSizes) = some false)
    (yk_NothingLeft_InvalidSizes : PySem.W.kitOne K (.ref c_NothingLeft) (.ref c_InvalidSizes) = some false)
    (yk_KnownName_InvalidSizes : PySem.W.kitOne K (.ref c_KnownName) (.ref c_InvalidSizes) = some false)
    (yk_UnknownName_InvalidSizes : PySem.W.kitOne K (.ref c_UnknownName) (.ref c_InvalidSizes) = some false)
    (yk_Closed_InvalidSizes : PySem.W.kitOne K (.ref c_Closed) (.ref c_InvalidSizes) = some false)
    (yk_Opened_InvalidSizes : PySem.W.kitOne K (.ref c_Opened) (.ref c_InvalidSizes) = some false)
    (yk_InvalidNumber_InvalidSizes : PySem.W.kitOne K (.ref c_InvalidNumber) (.ref c_InvalidSizes) = some false)
    (yk_InvalidRule_InvalidSizes : PySem.W.kitOne K (.ref c_InvalidRule) (.ref c_InvalidSizes) = some false)
    (yk_InvalidDisk_InvalidSizes : PySem.W.kitOne K (.ref c_InvalidDisk) (.ref c_InvalidSizes) = some false)
    (yk_InvalidName_InvalidSizes : PySem.W.kitOne K (.ref c_InvalidName) (.ref c_InvalidSizes) = some false)
    (yk_InvalidRuns_InvalidSizes : PySem.W.kitOne K (.ref c_InvalidRuns) (.ref c_InvalidSizes) = some false)
    (yk_InvalidBlock_InvalidSizes : PySem.W.kitOne K (.ref c_InvalidBlock) (.ref c_InvalidSizes) = some false)
    (yk_InvalidText_InvalidSizes : PySem.W.kitOne K (.ref c_InvalidText) (.ref c_InvalidSizes) = some false)
    (yk_InvalidBook_InvalidSizes : PySem.W.kitOne K (.ref c_InvalidBook) (.ref c_InvalidSizes) = some false)
    (yk_TooMany_InvalidEvent : PySem.W.kitOne K (.ref c_TooMany) (.ref c_InvalidEvent) = some false)
    (yk_Refused_InvalidEvent : PySem.W.kitOne K (.ref c_Refused) (.ref c_InvalidEvent) = some false)
    (yk_NotDone_InvalidEvent : PySem.W.kitOne K (.ref c_NotDone) (.ref c_InvalidEvent) = some false)
    (yk_NotClosed_InvalidEvent : PySem.W.kitOne K (.ref c_NotClosed) (.ref c_InvalidEvent) = some false)
    (yk_Refusable_InvalidEvent : PySem.W.kitOne K (.ref c_Refusable) (.ref c_InvalidEvent) = some false)
    (yk_InvalidChoice_InvalidEvent : PySem.W.kitOne K (.ref c_InvalidChoice) (.ref c_InvalidEvent) = some false)
    (yk_UnknownSet_InvalidEvent : PySem.W.kitOne K (.ref c_UnknownSet) (.ref c_InvalidEvent) = some false)
    (yk_InvalidCommand_InvalidEvent : PySem.W.kitOne K (.ref c_InvalidCommand) (.ref c_InvalidEvent) = some false)
    (yk_InvalidSizes_InvalidEvent : PySem.W.kitOne K (.ref c_InvalidSizes) (.ref c_InvalidEvent) = some false)
    (yk_InvalidState_InvalidEvent : PySem.W.kitOne K (.ref c_InvalidState) (.ref c_InvalidEvent) = some false)
    (yk_InvalidTable_InvalidEvent : PySem.W.kitOne K (.ref c_InvalidTable) (.ref c_InvalidEvent) = some false)
    (yk_InvalidEvent_InvalidEvent : PySem.W.kitOne K (.ref c_InvalidEvent) (.ref c_InvalidEvent) = some true)
    (yk_InvalidRow_InvalidEvent : PySem.W.kitOne K (.ref c_InvalidRow) (.ref c_InvalidEvent) = some false)
    (yk_InvalidLine_InvalidEvent : PySem.W.kitOne K (.ref c_InvalidLine) (.ref c_InvalidEvent) = some false)
    (yk_NothingLeft_InvalidEvent : PySem.W.kitOne K (.ref c_NothingLeft) (.ref c_InvalidEvent) = some false)
    (yk_KnownName_InvalidEvent : PySem.W.kitOne K (.ref c_KnownName) (.ref c_InvalidEvent) = some false)
    (yk_UnknownName_InvalidEvent : PySem.W.kitOne K (.ref c_UnknownName) (.ref c_InvalidEvent) = some false)
    (yk_Closed_InvalidEvent : PySem.W.kitOne K (.ref c_Closed) (.ref c_InvalidEvent) = some false)
    (yk_Opened_InvalidEvent : PySem.W.kitOne K (.ref c_Opened) (.ref c_InvalidEvent) = some false)
    (yk_InvalidNumber_InvalidEvent : PySem.W.kitOne K (.ref c_InvalidNumber) (.ref c_InvalidEvent) = some false)
    (yk_InvalidRule_InvalidEvent : PySem.W.kitOne K (.ref c_InvalidRule) (.ref c_InvalidEvent) = some false)
    (yk_InvalidDisk_InvalidEvent : PySem.W.kitOne K (.ref c_InvalidDisk) (.ref c_InvalidEvent) = some false)
    (yk_InvalidName_InvalidEvent : PySem.W.kitOne K (.ref c_InvalidName) (.ref c_InvalidEvent) = some false)
    (yk_InvalidRuns_InvalidEvent : PySem.W.kitOne K (.ref c_InvalidRuns) (.ref c_InvalidEvent) = some false)
    (yk_InvalidBlock_InvalidEvent : PySem.W.kitOne K (.ref c_InvalidBlock) (.ref c_InvalidEvent) = some false)
    (yk_InvalidText_InvalidEvent : PySem.W.kitOne K (.ref c_InvalidText) (.ref c_InvalidEvent) = some false)
    (yk_InvalidBook_InvalidEvent : PySem.W.kitOne K (.ref c_InvalidBook) (.ref c_InvalidEvent) = some false)
    (yk_TooMany_InvalidRow : PySem.W.kitOne K (.ref c_TooMany) (.ref c_InvalidRow) = some false)
    (yk_Refused_InvalidRow : PySem.W.kitOne K (.ref c_Refused) (.ref c_InvalidRow) = some false)
    (yk_NotDone_InvalidRow : PySem.W.kitOne K (.ref c_NotDone) (.ref c_InvalidRow) = some false)
    (yk_NotClosed_InvalidRow : PySem.W.kitOne K (.ref c_NotClosed) (.ref c_InvalidRow) = some false)
    (yk_Refusable_InvalidRow : PySem.W.kitOne K (.ref c_Refusable) (.ref c_InvalidRow) = some false)
    (yk_InvalidChoice_InvalidRow : PySem.W.kitOne K (.ref c_InvalidChoice) (.ref c_InvalidRow) = some false)
    (yk_UnknownSet_InvalidRow : PySem.W.kitOne K (.ref c_UnknownSet) (.ref c_InvalidRow) = some false)
    (yk_InvalidCommand_InvalidRow : PySem.W.kitOne K (.ref c_InvalidCommand) (.ref c_InvalidRow) = some false)
    (yk_InvalidSizes_InvalidRow : PySem.W.kitOne K (.ref c_InvalidSizes) (.ref c_InvalidRow) = some false)
    (yk_InvalidState_InvalidRow : PySem.W.kitOne K (.ref c_InvalidState) (.ref c_InvalidRow) = some false)
    (yk_InvalidTable_InvalidRow : PySem.W.kitOne K (.ref c_InvalidTable) (.ref c_InvalidRow) = some false)
    (yk_InvalidEvent_InvalidRow : PySem.W.kitOne K (.ref c_InvalidEvent) (.ref c_InvalidRow) = some false)
    (yk_InvalidRow_InvalidRow : PySem.W.kitOne K (.ref c_InvalidRow) (.ref c_InvalidRow) = some true)
    (yk_InvalidLine_InvalidRow : PySem.W.kitOne K (.ref c_InvalidLine) (.ref c_InvalidRow) = some false)
    (yk_NothingLeft_InvalidRow : PySem.W.kitOne K (.ref c_NothingLeft) (.ref c_InvalidRow) = some false)
    (yk_KnownName_InvalidRow : PySem.W.kitOne K (.ref c_KnownName) (.ref c_InvalidRow) = some false)
    (yk_UnknownName_InvalidRow : PySem.W.kitOne K (.ref c_UnknownName) (.ref c_InvalidRow) = some false)
    (yk_Closed_InvalidRow : PySem.W.kitOne K (.ref c_Closed) (.ref c_InvalidRow) = some false)
    (yk_Opened_InvalidRow : PySem.W.kitOne K (.ref c_Opened) (.ref c_InvalidRow) = some false)
    (yk_InvalidNumber_InvalidRow : PySem.W.kitOne K (.ref c_InvalidNumber) (.ref c_InvalidRow) = some false)
    (yk_InvalidRule_InvalidRow : PySem.W.kitOne K (.ref c_InvalidRule) (.ref c_InvalidRow) = some false)
    (yk_InvalidDisk_InvalidRow : PySem.W.kitOne K (.ref c_InvalidDisk) (.ref c_InvalidRow) = some false)
    (yk_InvalidName_InvalidRow : PySem.W.kitOne K (.ref c_InvalidName) (.ref c_InvalidRow) = some false)
    (yk_InvalidRuns_InvalidRow : PySem.W.kitOne K (.ref c_InvalidRuns) (.ref c_InvalidRow) = some false)
    (yk_InvalidBlock_InvalidRow : PySem.W.kitOne K (.ref c_InvalidBlock) (.ref c_InvalidRow) = some false)
    (yk_InvalidText_InvalidRow : PySem.W.kitOne K (.ref c_InvalidText) (.ref c_InvalidRow) = some false)
    (yk_InvalidBook_InvalidRow : PySem.W.kitOne K (.ref c_InvalidBook) (.ref c_InvalidRow) = some false)
    (yk_TooMany_InvalidLine : PySem.W.kitOne K (.ref c_TooMany) (.ref c_InvalidLine) = some false)
    (yk_Refused_InvalidLine : PySem.W.kitOne K (.ref c_Refused) (.ref c_InvalidLine) = some false)
    (yk_NotDone_InvalidLine : PySem.W.kitOne K (.ref c_NotDone) (.ref c_InvalidLine) = some false)
    (yk_NotClosed_InvalidLine : PySem.W.kitOne K (.ref c_NotClosed) (.ref c_InvalidLine) = some false)
    (yk_Refusable_InvalidLine : PySem.W.kitOne K (.ref c_Refusable) (.ref c_InvalidLine) = some false)
    (yk_InvalidChoice_InvalidLine : PySem.W.kitOne K (.ref c_InvalidChoice) (.ref c_InvalidLine) = some false)
    (yk_UnknownSet_InvalidLine : PySem.W.kitOne K (.ref c_UnknownSet) (.ref c_InvalidLine) = some false)
    (yk_InvalidCommand_InvalidLine : PySem.W.kitOne K (.ref c_InvalidCommand) (.ref c_InvalidLine) = some false)
    (yk_InvalidSizes_InvalidLine : PySem.W.kitOne K (.ref c_InvalidSizes) (.ref c_InvalidLine) = some false)
    (yk_InvalidState_InvalidLine : PySem.W.kitOne K (.ref c_InvalidState) (.ref c_InvalidLine) = some false)
    (yk_InvalidTable_InvalidLine : PySem.W.kitOne K (.ref c_InvalidTable) (.ref c_InvalidLine) = some false)
    (yk_InvalidEvent_InvalidLine : PySem.W.kitOne K (.ref c_InvalidEvent) (.ref c_InvalidLine) = some false)
    (yk_InvalidRow_InvalidLine : PySem.W.kitOne K (.ref c_InvalidRow) (.ref c_InvalidLine) = some false)
    (yk_InvalidLine_InvalidLine : PySem.W.kitOne K (.ref c_InvalidLine) (.ref c_InvalidLine) = some true)
    (yk_NothingLeft_InvalidLine : PySem.W.kitOne K (.ref c_NothingLeft) (.ref c_InvalidLine) = some false)
    (yk_KnownName_InvalidLine : PySem.W.kitOne K (.ref c_KnownName) (.ref c_InvalidLine) = some false)
    (yk_UnknownName_InvalidLine : PySem.W.kitOne K (.ref c_UnknownName) (.ref c_InvalidLine) = some false)
    (yk_Closed_InvalidLine : PySem.W.kitOne K (.ref c_Closed) (.ref c_InvalidLine) = some false)
    (yk_Opened_InvalidLine : PySem.W.kitOne K (.ref c_Opened) (.ref c_InvalidLine) = some false)
    (yk_InvalidNumber_InvalidLine : PySem.W.kitOne K (.ref c_InvalidNumber) (.ref c_InvalidLine) = some false)
    (yk_InvalidRule_InvalidLine : PySem.W.kitOne K (.ref c_InvalidRule) (.ref c_InvalidLine) = some false)
    (yk_InvalidDisk_InvalidLine : PySem.W.kitOne K (.ref c_InvalidDisk) (.ref c_InvalidLine) = some false)
    (yk_InvalidName_InvalidLine : PySem.W.kitOne K (.ref c_InvalidName) (.ref c_InvalidLine) = some false)
    (yk_InvalidRuns_InvalidLine : PySem.W.kitOne K (.ref c_InvalidRuns) (.ref c_InvalidLine) = some false)
    (yk_InvalidBlock_InvalidLine : PySem.W.kitOne K (.ref c_InvalidBlock) (.ref c_InvalidLine) = some false)
    (yk_InvalidText_InvalidLine : PySem.W.kitOne K (.ref c_InvalidText) (.ref c_InvalidLine) = some false)
    (yk_InvalidBook_InvalidLine : PySem.W.kitOne K (.ref c_InvalidBook) (.ref c_InvalidLine) = some false)
    (yk_TooMany_UnknownName : PySem.W.kitOne K (.ref c_TooMany) (.ref c_UnknownName) = some false)
    (yk_Refused_UnknownName : PySem.W.kitOne K (.ref c_Refused) (.ref c_UnknownName) = some false)
    (yk_NotDone_UnknownName : PySem.W.kitOne K (.ref c_NotDone) (.ref c_UnknownName) = some false)
    (yk_NotClosed_UnknownName : PySem.W.kitOne K (.ref c_NotClosed) (.ref c_UnknownName) = some false)
    (yk_Refusable_UnknownName : PySem.W.kitOne K (.ref c_Refusable) (.ref c_UnknownName) = some false)
    (yk_InvalidChoice_UnknownName : PySem.W.kitOne K (.ref c_InvalidChoice) (.ref c_UnknownName) = some false)
    (yk_UnknownSet_UnknownName : PySem.W.kitOne K (.ref c_UnknownSet) (.ref c_UnknownName) = some false)
    (yk_InvalidCommand_UnknownName : PySem.W.kitOne K (.ref c_InvalidCommand) (.ref c_UnknownName) = some false)
    (yk_InvalidSizes_UnknownName : PySem.W.kitOne K (.ref c_InvalidSizes) (.ref c_UnknownName) = some false)
    (yk_InvalidState_UnknownName : PySem.W.kitOne K (.ref c_InvalidState) (.ref c_UnknownName) = some false)
    (yk_InvalidTable_UnknownName : PySem.W.kitOne K (.ref c_InvalidTable) (.ref c_UnknownName) = some false)
    (yk_InvalidEvent_UnknownName : PySem.W.kitOne K (.ref c_InvalidEvent) (.ref c_UnknownName) = some false)
    (yk_InvalidRow_UnknownName : PySem.W.kitOne K (.ref c_InvalidRow) (.ref c_UnknownName) = some false)
    (yk_InvalidLine_UnknownName : PySem.W.kitOne K (.ref c_InvalidLine) (.ref c_UnknownName) = some false)
    (yk_NothingLeft_UnknownName : PySem.W.kitOne K (.ref c_NothingLeft) (.ref c_UnknownName) = some false)
    (yk_KnownName_UnknownName : PySem.W.kitOne K (.ref c_KnownName) (.ref c_UnknownName) = some false)
    (yk_UnknownName_UnknownName : PySem.W.kitOne K (.ref c_UnknownName) (.ref c_UnknownName) = some true)
    (yk_Closed_UnknownName : PySem.W.kitOne K (.ref c_Closed) (.ref c_UnknownName) = some false)
    (yk_Opened_UnknownName : PySem.W.kitOne K (.ref c_Opened) (.ref c_UnknownName) = some false)
    (yk_InvalidNumber_UnknownName : PySem.W.kitOne K (.ref c_InvalidNumber) (.ref c_UnknownName) = some false)
    (yk_InvalidRule_UnknownName : PySem.W.kitOne K (.ref c_InvalidRule) (.ref c_UnknownName) = some false)
    (yk_InvalidDisk_UnknownName : PySem.W.kitOne K (.ref c_InvalidDisk) (.ref c_UnknownName) = some false)
    (yk_InvalidName_UnknownName : PySem.W.kitOne K (.ref c_InvalidName) (.ref c_UnknownName) = some false)
    (yk_InvalidRuns_UnknownName : PySem.W.kitOne K (.ref c_InvalidRuns) (.ref c_UnknownName) = some false)
    (yk_InvalidBlock_UnknownName : PySem.W.kitOne K (.ref c_InvalidBlock) (.ref c_UnknownName) = some false)
    (yk_InvalidText_UnknownName : PySem.W.kitOne K (.ref c_InvalidText) (.ref c_UnknownName) = some false)
    (yk_InvalidBook_UnknownName : PySem.W.kitOne K (.ref c_InvalidBook) (.ref c_UnknownName) = some false)
    (yk_TooMany_Closed : PySem.W.kitOne K (.ref c_TooMany) (.ref c_Closed) = some false)
    (yk_Refused_Closed : PySem.W.kitOne K (.ref c_Refused) (.ref c_Closed) = some false)
    (yk_NotDone_Closed : PySem.W.kitOne K (.ref c_NotDone) (.ref c_Closed) = some false)
    (yk_NotClosed_Closed : PySem.W.kitOne K (.ref c_NotClosed) (.ref c_Closed) = some false)
    (yk_Refusable_Closed : PySem.W.kitOne K (.ref c_Refusable) (.ref c_Closed) = some false)
    (yk_InvalidChoice_Closed : PySem.W.kitOne K (.ref c_InvalidChoice) (.ref c_Closed) = some false)
    (yk_UnknownSet_Closed : PySem.W.kitOne K (.ref c_UnknownSet) (.ref c_Closed) = some false)
    (yk_InvalidCommand_Closed : PySem.W.kitOne K (.ref c_InvalidCommand) (.ref c_Closed) = some false)
    (yk_InvalidSizes_Closed : PySem.W.kitOne K (.ref c_InvalidSizes) (.ref c_Closed) = some false)
    (yk_InvalidState_Closed : PySem.W.kitOne K (.ref c_InvalidState) (.ref c_Closed) = some false)
    (yk_InvalidTable_Closed : PySem.W.kitOne K (.ref c_InvalidTable) (.ref c_Closed) = some false)
    (yk_InvalidEvent_Closed : PySem.W.kitOne K (.ref c_InvalidEvent) (.ref c_Closed) = some false)
    (yk_InvalidRow_Closed : PySem.W.kitOne K (.ref c_InvalidRow) (.ref c_Closed) = some false)
    (yk_InvalidLine_Closed : PySem.W.kitOne K (.ref c_InvalidLine) (.ref c_Closed) = some false)
    (yk_NothingLeft_Closed : PySem.W.kitOne K (.ref c_NothingLeft) (.ref c_Closed) = some false)
    (yk_KnownName_Closed : PySem.W.kitOne K (.ref c_KnownName) (.ref c_Closed) = some false)
    (yk_UnknownName_Closed : PySem.W.kitOne K (.ref c_UnknownName) (.ref c_Closed) = some false)
    (yk_Closed_Closed : PySem.W.kitOne K (.ref c_Closed) (.ref c_Closed) = some true)
    (yk_Opened_Closed : PySem.W.kitOne K (.ref c_Opened) (.ref c_Closed) = some false)
    (yk_InvalidNumber_Closed : PySem.W.kitOne K (.ref c_InvalidNumber) (.ref c_Closed) = some false)
    (yk_InvalidRule_Closed : PySem.W.kitOne K (.ref c_InvalidRule) (.ref c_Closed) = some false)
    (yk_InvalidDisk_Closed : PySem.W.kitOne K (.ref c_InvalidDisk) (.ref c_Closed) = some false)
    (yk_InvalidName_Closed : PySem.W.kitOne K (.ref c_InvalidName) (.ref c_Closed) = some false)
    (yk_InvalidRuns_Closed : PySem.W.kitOne K (.ref c_InvalidRuns) (.ref c_Closed) = some false)
    (yk_InvalidBlock_Closed : PySem.W.kitOne K (.ref c_InvalidBlock) (.ref c_Closed) = some false)
    (yk_InvalidText_Closed : PySem.W.kitOne K (.ref c_InvalidText) (.ref c_Closed) = some false)
    (yk_InvalidBook_Closed : PySem.W.kitOne K (.ref c_InvalidBook) (.ref c_Closed) = some false)
    (yk_TooMany_Opened : PySem.W.kitOne K (.ref c_TooMany) (.ref c_Opened) = some false)
    (yk_Refused_Opened : PySem.W.kitOne K (.ref c_Refused) (.ref c_Opened) = some false)
    (yk_NotDone_Opened : PySem.W.kitOne K (.ref c_NotDone) (.ref c_Opened) = some false)
    (yk_NotClosed_Opened : PySem.W.kitOne K (.ref c_NotClosed) (.ref c_Opened) = some false)
    (yk_Refusable_Opened : PySem.W.kitOne K (.ref c_Refusable) (.ref c_Opened) = some false)
    (yk_InvalidChoice_Opened : PySem.W.kitOne K (.ref c_InvalidChoice) (.ref c_Opened) = some false)
    (yk_UnknownSet_Opened : PySem.W.kitOne K (.ref c_UnknownSet) (.ref c_Opened) = some false)
    (yk_InvalidCommand_Opened : PySem.W.kitOne K (.ref c_InvalidCommand) (.ref c_Opened) = some false)
    (yk_InvalidSizes_Opened : PySem.W.kitOne K (.ref c_InvalidSizes) (.ref c_Opened) = some false)
    (yk_InvalidState_Opened : PySem.W.kitOne K (.ref c_InvalidState) (.ref c_Opened) = some false)
    (yk_InvalidTable_Opened : PySem.W.kitOne K (.ref c_InvalidTable) (.ref c_Opened) = some false)
    (yk_InvalidEvent_Opened : PySem.W.kitOne K (.ref c_InvalidEvent) (.ref c_Opened) = some false)
    (yk_InvalidRow_Opened : PySem.W.kitOne K (.ref c_InvalidRow) (.ref c_Opened) = some false)
    (yk_InvalidLine_Opened : PySem.W.kitOne K (.ref c_InvalidLine) (.ref c_Opened) = some false)
    (yk_NothingLeft_Opened : PySem.W.kitOne K (.ref c_NothingLeft) (.ref c_Opened) = some false)
    (yk_KnownName_Opened : PySem.W.kitOne K (.ref c_KnownName) (.ref c_Opened) = some false)
    (yk_UnknownName_Opened : PySem.W.kitOne K (.ref c_UnknownName) (.ref c_Opened) = some false)
    (yk_Closed_Opened : PySem.W.kitOne K (.ref c_Closed) (.ref c_Opened) = some false)
    (yk_Opened_Opened : PySem.W.kitOne K (.ref c_Opened) (.ref c_Opened) = some true)
    (yk_InvalidNumber_Opened : PySem.W.kitOne K (.ref c_InvalidNumber) (.ref c_Opened) = some false)
    (yk_InvalidRule_Opened : PySem.W.kitOne K (.ref c_InvalidRule) (.ref c_Opened) = some false)
    (yk_InvalidDisk_Opened : PySem.W.kitOne K (.ref c_InvalidDisk) (.ref c_Opened) = some false)
    (yk_InvalidName_Opened : PySem.W.kitOne K (.ref c_InvalidName) (.ref c_Opened) = some false)
    (yk_InvalidRuns_Opened : PySem.W.kitOne K (.ref c_InvalidRuns) (.ref c_Opened) = some false)
    (yk_InvalidBlock_Opened : PySem.W.kitOne K (.ref c_InvalidBlock) (.ref c_Opened) = some false)
    (yk_InvalidText_Opened : PySem.W.kitOne K (.ref c_InvalidText) (.ref c_Opened) = some false)
    (yk_InvalidBook_Opened : PySem.W.kitOne K (.ref c_InvalidBook) (.ref c_Opened) = some false)
    (yk_TooMany_InvalidDisk : PySem.W.kitOne K (.ref c_TooMany) (.ref c_InvalidDisk) = some false)
    (yk_Refused_InvalidDisk : PySem.W.kitOne K (.ref c_Refused) (.ref c_InvalidDisk) = some false)
    (yk_NotDone_InvalidDisk : PySem.W.kitOne K (.ref c_NotDone) (.ref c_InvalidDisk) = some false)
    (yk_NotClosed_InvalidDisk : PySem.W.kitOne K (.ref c_NotClosed) (.ref c_InvalidDisk) = some false)
    (yk_Refusable_InvalidDisk : PySem.W.kitOne K (.ref c_Refusable) (.ref c_InvalidDisk) = some false)
    (yk_InvalidChoice_InvalidDisk : PySem.W.kitOne K (.ref c_InvalidChoice) (.ref c_InvalidDisk) = some false)
    (yk_UnknownSet_InvalidDisk : PySem.W.kitOne K (.ref c_UnknownSet) (.ref c_InvalidDisk) = some false)
    (yk_InvalidCommand_InvalidDisk : PySem.W.kitOne K (.ref c_InvalidCommand) (.ref c_InvalidDisk) = some false)
    (yk_InvalidSizes_InvalidDisk : PySem.W.kitOne K (.ref c_InvalidSizes) (.ref c_InvalidDisk) = some false)
    (yk_InvalidState_InvalidDisk : PySem.W.kitOne K (.ref c_InvalidState) (.ref c_InvalidDisk) = some false)
    (yk_InvalidTable_InvalidDisk : PySem.W.kitOne K (.ref c_InvalidTable) (.ref c_InvalidDisk) = some false)
    (yk_InvalidEvent_InvalidDisk : PySem.W.kitOne K (.ref c_InvalidEvent) (.ref c_InvalidDisk) = some false)
    (yk_InvalidRow_InvalidDisk : PySem.W.kitOne K (.ref c_InvalidRow) (.ref c_InvalidDisk) = some false)
    (yk_InvalidLine_InvalidDisk : PySem.W.kitOne K (.ref c_InvalidLine) (.ref c_InvalidDisk) = some false)
    (yk_NothingLeft_InvalidDisk : PySem.W.kitOne K (.ref c_NothingLeft) (.ref c_InvalidDisk) = some false)
    (yk_KnownName_InvalidDisk : PySem.W.kitOne K (.ref c_KnownName) (.ref c_InvalidDisk) = some false)
    (yk_UnknownName_InvalidDisk : PySem.W.kitOne K (.ref c_UnknownName) (.ref c_InvalidDisk) = some false)
    (yk_Closed_InvalidDisk : PySem.W.kitOne K (.ref c_Closed) (.ref c_InvalidDisk) = some false)
    (yk_Opened_InvalidDisk : PySem.W.kitOne K (.ref c_Opened) (.ref c_InvalidDisk) = some false)
    (yk_InvalidNumber_InvalidDisk : PySem.W.kitOne K (.ref c_InvalidNumber) (.ref c_InvalidDisk) = some false)
    (yk_InvalidRule_InvalidDisk : PySem.W.kitOne K (.ref c_InvalidRule) (.ref c_InvalidDisk) = some false)
    (yk_InvalidDisk_InvalidDisk : PySem.W.kitOne K (.ref c_InvalidDisk) (.ref c_InvalidDisk) = some true)
    (yk_InvalidName_InvalidDisk : PySem.W.kitOne K (.ref c_InvalidName) (.ref c_InvalidDisk) = some false)
    (yk_InvalidRuns_InvalidDisk : PySem.W.kitOne K (.ref c_InvalidRuns) (.ref c_InvalidDisk) = some false)
    (yk_InvalidBlock_InvalidDisk : PySem.W.kitOne K (.ref c_InvalidBlock) (.ref c_InvalidDisk) = some false)
    (yk_InvalidText_InvalidDisk : PySem.W.kitOne K (.ref c_InvalidText) (.ref c_InvalidDisk) = some false)
    (yk_InvalidBook_InvalidDisk : PySem.W.kitOne K (.ref c_InvalidBook) (.ref c_InvalidDisk) = some false)
    (yk_TooMany_InvalidName : PySem.W.kitOne K (.ref c_TooMany) (.ref c_InvalidName) = some false)
    (yk_Refused_InvalidName : PySem.W.kitOne K (.ref c_Refused) (.ref c_InvalidName) = some false)
    (yk_NotDone_InvalidName : PySem.W.kitOne K (.ref c_NotDone) (.ref c_InvalidName) = some false)
    (yk_NotClosed_InvalidName : PySem.W.kitOne K (.ref c_NotClosed) (.ref c_InvalidName) = some false)
    (yk_Refusable_InvalidName : PySem.W.kitOne K (.ref c_Refusable) (.ref c_InvalidName) = some false)
    (yk_InvalidChoice_InvalidName : PySem.W.kitOne K (.ref c_InvalidChoice) (.ref c_InvalidName) = some false)
    (yk_UnknownSet_InvalidName : PySem.W.kitOne K (.ref c_UnknownSet) (.ref c_InvalidName) = some false)
    (yk_InvalidCommand_InvalidName : PySem.W.kitOne K (.ref c_InvalidCommand) (.ref c_InvalidName) = some false)
    (yk_InvalidSizes_InvalidName : PySem.W.kitOne K (.ref c_InvalidSizes) (.ref c_InvalidName) = some false)
    (yk_InvalidState_InvalidName : PySem.W.kitOne K (.ref c_InvalidState) (.ref c_InvalidName) = some false)
    (yk_InvalidTable_InvalidName : PySem.W.kitOne K (.ref c_InvalidTable) (.ref c_InvalidName) = some false)
    (yk_InvalidEvent_InvalidName : PySem.W.kitOne K (.ref c_InvalidEvent) (.ref c_InvalidName) = some false)
    (yk_InvalidRow_InvalidName : PySem.W.kitOne K (.ref c_InvalidRow) (.ref c_InvalidName) = some false)
    (yk_InvalidLine_InvalidName : PySem.W.kitOne K (.ref c_InvalidLine) (.ref c_InvalidName) = some false)
    (yk_NothingLeft_InvalidName : PySem.W.kitOne K (.ref c_NothingLeft) (.ref c_InvalidName) = some false)
    (yk_KnownName_InvalidName : PySem.W.kitOne K (.ref c_KnownName) (.ref c_InvalidName) = some false)
    (yk_UnknownName_InvalidName : PySem.W.kitOne K (.ref c_UnknownName) (.ref c_InvalidName) = some false)
    (yk_Closed_InvalidName : PySem.W.kitOne K (.ref c_Closed) (.ref c_InvalidName) = some false)
    (yk_Opened_InvalidName : PySem.W.kitOne K (.ref c_Opened) (.ref c_InvalidName) = some false)
    (yk_InvalidNumber_InvalidName : PySem.W.kitOne K (.ref c_InvalidNumber) (.ref c_InvalidName) = some false)
    (yk_InvalidRule_InvalidName : PySem.W.kitOne K (.ref c_InvalidRule) (.ref c_InvalidName) = some false)
    (yk_InvalidDisk_InvalidName : PySem.W.kitOne K (.ref c_InvalidDisk) (.ref c_InvalidName) = some false)
    (yk_InvalidName_InvalidName : PySem.W.kitOne K (.ref c_InvalidName) (.ref c_InvalidName) = some true)
    (yk_InvalidRuns_InvalidName : PySem.W.kitOne K (.ref c_InvalidRuns) (.ref c_InvalidName) = some false)
    (yk_InvalidBlock_InvalidName : PySem.W.kitOne K (.ref c_InvalidBlock) (.ref c_InvalidName) = some false)
    (yk_InvalidText_InvalidName : PySem.W.kitOne K (.ref c_InvalidText) (.ref c_InvalidName) = some false)
    (yk_InvalidBook_InvalidName : PySem.W.kitOne K (.ref c_InvalidBook) (.ref c_InvalidName) = some false)
    (yk_TooMany_KnownName : PySem.W.kitOne K (.ref c_TooMany) (.ref c_KnownName) = some false)
    (yk_Refused_KnownName : PySem.W.kitOne K (.ref c_Refused) (.ref c_KnownName) = some false)
    (yk_NotDone_KnownName : PySem.W.kitOne K (.ref c_NotDone) (.ref c_KnownName) = some false)
    (yk_NotClosed_KnownName : PySem.W.kitOne K (.ref c_NotClosed) (.ref c_KnownName) = some false)
    (yk_Refusable_KnownName : PySem.W.kitOne K (.ref c_Refusable) (.ref c_KnownName) = some false)
    (yk_InvalidChoice_KnownName : PySem.W.kitOne K (.ref c_InvalidChoice) (.ref c_KnownName) = some false)
    (yk_UnknownSet_KnownName : PySem.W.kitOne K (.ref c_UnknownSet) (.ref c_KnownName) = some false)
    (yk_InvalidCommand_KnownName : PySem.W.kitOne K (.ref c_InvalidCommand) (.ref c_KnownName) = some false)
    (yk_InvalidSizes_KnownName : PySem.W.kitOne K (.ref c_InvalidSizes) (.ref c_KnownName) = some false)
    (yk_InvalidState_KnownName : PySem.W.kitOne K (.ref c_InvalidState) (.ref c_KnownName) = some false)
    (yk_InvalidTable_KnownName : PySem.W.kitOne K (.ref c_InvalidTable) (.ref c_KnownName) = some false)
    (yk_InvalidEvent_KnownName : PySem.W.kitOne K (.ref c_InvalidEvent) (.ref c_KnownName) = some false)
    (yk_InvalidRow_KnownName : PySem.W.kitOne K (.ref c_InvalidRow) (.ref c_KnownName) = some false)
    (yk_InvalidLine_KnownName : PySem.W.kitOne K (.ref c_InvalidLine) (.ref c_KnownName) = some false)
    (yk_NothingLeft_KnownName : PySem.W.kitOne K (.ref c_NothingLeft) (.ref c_KnownName) = some false)
    (yk_KnownName_KnownName : PySem.W.kitOne K (.ref c_KnownName) (.ref c_KnownName) = some true)
    (yk_UnknownName_KnownName : PySem.W.kitOne K (.ref c_UnknownName) (.ref c_KnownName) = some false)
    (yk_Closed_KnownName : PySem.W.kitOne K (.ref c_Closed) (.ref c_KnownName) = some false)
    (yk_Opened_KnownName : PySem.W.kitOne K (.ref c_Opened) (.ref c_KnownName) = some false)
    (yk_InvalidNumber_KnownName : PySem.W.kitOne K (.ref c_InvalidNumber) (.ref c_KnownName) = some false)
    (yk_InvalidRule_KnownName : PySem.W.kitOne K (.ref c_InvalidRule) (.ref c_KnownName) = some false)
    (yk_InvalidDisk_KnownName : PySem.W.kitOne K (.ref c_InvalidDisk) (.ref c_KnownName) = some false)
    (yk_InvalidName_KnownName : PySem.W.kitOne K (.ref c_InvalidName) (.ref c_KnownName) = some false)
    (yk_InvalidRuns_KnownName : PySem.W.kitOne K (.ref c_InvalidRuns) (.ref c_KnownName) = some false)
    (yk_InvalidBlock_KnownName : PySem.W.kitOne K (.ref c_InvalidBlock) (.ref c_KnownName) = some false)
    (yk_InvalidText_KnownName : PySem.W.kitOne K (.ref c_InvalidText) (.ref c_KnownName) = some false)
    (yk_InvalidBook_KnownName : PySem.W.kitOne K (.ref c_InvalidBook) (.ref c_KnownName) = some false)
    (yk_TooMany_InvalidBook : PySem.W.kitOne K (.ref c_TooMany) (.ref c_InvalidBook) = some false)
    (yk_Refused_InvalidBook : PySem.W.kitOne K (.ref c_Refused) (.ref c_InvalidBook) = some false)
    (yk_NotDone_InvalidBook : PySem.W.kitOne K (.ref c_NotDone) (.ref c_InvalidBook) = some false)
    (yk_NotClosed_InvalidBook : PySem.W.kitOne K (.ref c_NotClosed) (.ref c_InvalidBook) = some false)
    (yk_Refusable_InvalidBook : PySem.W.kitOne K (.ref c_Refusable) (.ref c_InvalidBook) = some false)
    (yk_InvalidChoice_InvalidBook : PySem.W.kitOne K (.ref c_InvalidChoice) (.ref c_InvalidBook) = some false)
    (yk_UnknownSet_InvalidBook : PySem.W.kitOne K (.ref c_UnknownSet) (.ref c_InvalidBook) = some false)
    (yk_InvalidCommand_InvalidBook : PySem.W.kitOne K (.ref c_InvalidCommand) (.ref c_InvalidBook) = some false)
    (yk_InvalidSizes_InvalidBook : PySem.W.kitOne K (.ref c_InvalidSizes) (.ref c_InvalidBook) = some false)
    (yk_InvalidState_InvalidBook : PySem.W.kitOne K (.ref c_InvalidState) (.ref c_InvalidBook) = some false)
    (yk_InvalidTable_InvalidBook : PySem.W.kitOne K (.ref c_InvalidTable) (.ref c_InvalidBook) = some false)
    (yk_InvalidEvent_InvalidBook : PySem.W.kitOne K (.ref c_InvalidEvent) (.ref c_InvalidBook) = some false)
    (yk_InvalidRow_InvalidBook : PySem.W.kitOne K (.ref c_InvalidRow) (.ref c_InvalidBook) = some false)
    (yk_InvalidLine_InvalidBook : PySem.W.kitOne K (.ref c_InvalidLine) (.ref c_InvalidBook) = some false)
    (yk_NothingLeft_InvalidBook : PySem.W.kitOne K (.ref c_NothingLeft) (.ref c_InvalidBook) = some false)
    (yk_KnownName_InvalidBook : PySem.W.kitOne K (.ref c_KnownName) (.ref c_InvalidBook) = some false)
    (yk_UnknownName_InvalidBook : PySem.W.kitOne K (.ref c_UnknownName) (.ref c_InvalidBook) = some false)
    (yk_Closed_InvalidBook : PySem.W.kitOne K (.ref c_Closed) (.ref c_InvalidBook) = some false)
    (yk_Opened_InvalidBook : PySem.W.kitOne K (.ref c_Opened) (.ref c_InvalidBook) = some false)
    (yk_InvalidNumber_InvalidBook : PySem.W.kitOne K (.ref c_InvalidNumber) (.ref c_InvalidBook) = some false)
    (yk_InvalidRule_InvalidBook : PySem.W.kitOne K (.ref c_InvalidRule) (.ref c_InvalidBook) = some false)
    (yk_InvalidDisk_InvalidBook : PySem.W.kitOne K (.ref c_InvalidDisk) (.ref c_InvalidBook) = some false)
    (yk_InvalidName_InvalidBook : PySem.W.kitOne K (.ref c_InvalidName) (.ref c_InvalidBook) = some false)
    (yk_InvalidRuns_InvalidBook : PySem.W.kitOne K (.ref c_InvalidRuns) (.ref c_InvalidBook) = some false)
    (yk_InvalidBlock_InvalidBook : PySem.W.kitOne K (.ref c_InvalidBlock) (.ref c_InvalidBook) = some false)
    (yk_InvalidText_InvalidBook : PySem.W.kitOne K (.ref c_InvalidText) (.ref c_InvalidBook) = some false)
    (yk_InvalidBook_InvalidBook : PySem.W.kitOne K (.ref c_InvalidBook) (.ref c_InvalidBook) = some true)
    (yk_TooMany_InvalidNumber : PySem.W.kitOne K (.ref c_TooMany) (.ref c_InvalidNumber) = some false)
    (yk_Refused_InvalidNumber : PySem.W.kitOne K (.ref c_Refused) (.ref c_InvalidNumber) = some false)
    (yk_NotDone_InvalidNumber : PySem.W.kitOne K (.ref c_NotDone) (.ref c_InvalidNumber) = some false)
    (yk_NotClosed_InvalidNumber : PySem.W.kitOne K (.ref c_NotClosed) (.ref c_InvalidNumber) = some false)
    (yk_Refusable_InvalidNumber : PySem.W.kitOne K (.ref c_Refusable) (.ref c_InvalidNumber) = some false)
    (yk_InvalidChoice_InvalidNumber : PySem.W.kitOne K (.ref c_InvalidChoice) (.ref c_InvalidNumber) = some false)
    (yk_UnknownSet_InvalidNumber : PySem.W.kitOne K (.ref c_UnknownSet) (.ref c_InvalidNumber) = some false)
    (yk_InvalidCommand_InvalidNumber : PySem.W.kitOne K (.ref c_InvalidCommand) (.ref c_InvalidNumber) = some false)
    (yk_InvalidSizes_InvalidNumber : PySem.W.kitOne K (.ref c_InvalidSizes) (.ref c_InvalidNumber) = some false)
    (yk_InvalidState_InvalidNumber : PySem.W.kitOne K (.ref c_InvalidState) (.ref c_InvalidNumber) = some false)
    (yk_InvalidTable_InvalidNumber : PySem.W.kitOne K (.ref c_InvalidTable) (.ref c_InvalidNumber) = some false)
    (yk_InvalidEvent_InvalidNumber : PySem.W.kitOne K (.ref c_InvalidEvent) (.ref c_InvalidNumber) = some false)
    (yk_InvalidRow_InvalidNumber : PySem.W.kitOne K (.ref c_InvalidRow) (.ref c_InvalidNumber) = some false)
    (yk_InvalidLine_InvalidNumber : PySem.W.kitOne K (.ref c_InvalidLine) (.ref c_InvalidNumber) = some false)
    (yk_NothingLeft_InvalidNumber : PySem.W.kitOne K (.ref c_NothingLeft) (.ref c_InvalidNumber) = some false)
    (yk_KnownName_InvalidNumber : PySem.W.kitOne K (.ref c_KnownName) (.ref c_InvalidNumber) = some false)
    (yk_UnknownName_InvalidNumber : PySem.W.kitOne K (.ref c_UnknownName) (.ref c_InvalidNumber) = some false)
    (yk_Closed_InvalidNumber : PySem.W.kitOne K (.ref c_Closed) (.ref c_InvalidNumber) = some false)
    (yk_Opened_InvalidNumber : PySem.W.kitOne K (.ref c_Opened) (.ref c_InvalidNumber) = some false)
    (yk_InvalidNumber_InvalidNumber : PySem.W.kitOne K (.ref c_InvalidNumber) (.ref c_InvalidNumber) = some true)
    (yk_InvalidRule_InvalidNumber : PySem.W.kitOne K (.ref c_InvalidRule) (.ref c_InvalidNumber) = some false)
    (yk_InvalidDisk_InvalidNumber : PySem.W.kitOne K (.ref c_InvalidDisk) (.ref c_InvalidNumber) = some false)
    (yk_InvalidName_InvalidNumber : PySem.W.kitOne K (.ref c_InvalidName) (.ref c_InvalidNumber) = some false)
    (yk_InvalidRuns_InvalidNumber : PySem.W.kitOne K (.ref c_InvalidRuns) (.ref c_InvalidNumber) = some false)
    (yk_InvalidBlock_InvalidNumber : PySem.W.kitOne K (.ref c_InvalidBlock) (.ref c_InvalidNumber) = some false)
    (yk_InvalidText_InvalidNumber : PySem.W.kitOne K (.ref c_InvalidText) (.ref c_InvalidNumber) = some false)
    (yk_InvalidBook_InvalidNumber : PySem.W.kitOne K (.ref c_InvalidBook) (.ref c_InvalidNumber) = some false)
    (yk_TooMany_InvalidRule : PySem.W.kitOne K (.ref c_TooMany) (.ref c_InvalidRule) = some false)
    (yk_Refused_InvalidRule : PySem.W.kitOne K (.ref c_Refused) (.ref c_InvalidRule) = some false)
    (yk_NotDone_InvalidRule : PySem.W.kitOne K (.ref c_NotDone) (.ref c_InvalidRule) = some false)
    (yk_NotClosed_InvalidRule : PySem.W.kitOne K (.ref c_NotClosed) (.ref c_InvalidRule) = some false)
    (yk_Refusable_InvalidRule : PySem.W.kitOne K (.ref c_Refusable) (.ref c_InvalidRule) = some false)
    (yk_InvalidChoice_InvalidRule : PySem.W.kitOne K (.ref c_InvalidChoice) (.ref c_InvalidRule) = some false)
    (yk_UnknownSet_InvalidRule : PySem.W.kitOne K (.ref c_UnknownSet) (.ref c_InvalidRule) = some false)
    (yk_InvalidCommand_InvalidRule : PySem.W.kitOne K (.ref c_InvalidCommand) (.ref c_InvalidRule) = some false)
    (yk_InvalidSizes_InvalidRule : PySem.W.kitOne K (.ref c_InvalidSizes) (.ref c_InvalidRule) = some false)
    (yk_InvalidState_InvalidRule : PySem.W.kitOne K (.ref c_InvalidState) (.ref c_InvalidRule) = some false)
    (yk_InvalidTable_InvalidRule : PySem.W.kitOne K (.ref c_InvalidTable) (.ref c_InvalidRule) = some false)
    (yk_InvalidEvent_InvalidRule : PySem.W.kitOne K (.ref c_InvalidEvent) (.ref c_InvalidRule) = some false)
    (yk_InvalidRow_InvalidRule : PySem.W.kitOne K (.ref c_InvalidRow) (.ref c_InvalidRule) = some false)
    (yk_InvalidLine_InvalidRule : PySem.W.kitOne K (.ref c_InvalidLine) (.ref c_InvalidRule) = some false)
    (yk_NothingLeft_InvalidRule : PySem.W.kitOne K (.ref c_NothingLeft) (.ref c_InvalidRule) = some false)
    (yk_KnownName_InvalidRule : PySem.W.kitOne K (.ref c_KnownName) (.ref c_InvalidRule) = some false)
    (yk_UnknownName_InvalidRule : PySem.W.kitOne K (.ref c_UnknownName) (.ref c_InvalidRule) = some false)
    (yk_Closed_InvalidRule : PySem.W.kitOne K (.ref c_Closed) (.ref c_InvalidRule) = some false)
    (yk_Opened_InvalidRule : PySem.W.kitOne K (.ref c_Opened) (.ref c_InvalidRule) = some false)
    (yk_InvalidNumber_InvalidRule : PySem.W.kitOne K (.ref c_InvalidNumber) (.ref c_InvalidRule) = some false)
    (yk_InvalidRule_InvalidRule : PySem.W.kitOne K (.ref c_InvalidRule) (.ref c_InvalidRule) = some true)
    (yk_InvalidDisk_InvalidRule : PySem.W.kitOne K (.ref c_InvalidDisk) (.ref c_InvalidRule) = some false)
    (yk_InvalidName_InvalidRule : PySem.W.kitOne K (.ref c_InvalidName) (.ref c_InvalidRule) = some false)
    (yk_InvalidRuns_InvalidRule : PySem.W.kitOne K (.ref c_InvalidRuns) (.ref c_InvalidRule) = some false)
    (yk_InvalidBlock_InvalidRule : PySem.W.kitOne K (.ref c_InvalidBlock) (.ref c_InvalidRule) = some false)
    (yk_InvalidText_InvalidRule : PySem.W.kitOne K (.ref c_InvalidText) (.ref c_InvalidRule) = some false)
    (yk_InvalidBook_InvalidRule : PySem.W.kitOne K (.ref c_InvalidBook) (.ref c_InvalidRule) = some false)
    (yk_TooMany_InvalidRuns : PySem.W.kitOne K (.ref c_TooMany) (.ref c_InvalidRuns) = some false)
    (yk_Refused_InvalidRuns : PySem.W.kitOne K (.ref c_Refused) (.ref c_InvalidRuns) = some false)
    (yk_NotDone_InvalidRuns : PySem.W.kitOne K (.ref c_NotDone) (.ref c_InvalidRuns) = some false)
    (yk_NotClosed_InvalidRuns : PySem.W.kitOne K (.ref c_NotClosed) (.ref c_InvalidRuns) = some false)
    (yk_Refusable_InvalidRuns : PySem.W.kitOne K (.ref c_Refusable) (.ref c_InvalidRuns) = some false)
    (yk_InvalidChoice_InvalidRuns : PySem.W.kitOne K (.ref c_InvalidChoice) (.ref c_InvalidRuns) = some false)
    (yk_UnknownSet_InvalidRuns : PySem.W.kitOne K (.ref c_UnknownSet) (.ref c_InvalidRuns) = some false)
    (yk_InvalidCommand_InvalidRuns : PySem.W.kitOne K (.ref c_InvalidCommand) (.ref c_InvalidRuns) = some false)
    (yk_InvalidSizes_InvalidRuns : PySem.W.kitOne K (.ref c_InvalidSizes) (.ref c_InvalidRuns) = some false)
    (yk_InvalidState_InvalidRuns : PySem.W.kitOne K (.ref c_InvalidState) (.ref c_InvalidRuns) = some false)
    (yk_InvalidTable_InvalidRuns : PySem.W.kitOne K (.ref c_InvalidTable) (.ref c_InvalidRuns) = some false)
    (yk_InvalidEvent_InvalidRuns : PySem.W.kitOne K (.ref c_InvalidEvent) (.ref c_InvalidRuns) = some false)
    (yk_InvalidRow_InvalidRuns : PySem.W.kitOne K (.ref c_InvalidRow) (.ref c_InvalidRuns) = some false)
    (yk_InvalidLine_InvalidRuns : PySem.W.kitOne K (.ref c_InvalidLine) (.ref c_InvalidRuns) = some false)
    (yk_NothingLeft_InvalidRuns : PySem.W.kitOne K (.ref c_NothingLeft) (.ref c_InvalidRuns) = some false)
    (yk_KnownName_InvalidRuns : PySem.W.kitOne K (.ref c_KnownName) (.ref c_InvalidRuns) = some false)
    (yk_UnknownName_InvalidRuns : PySem.W.kitOne K (.ref c_UnknownName) (.ref c_InvalidRuns) = some false)
    (yk_Closed_InvalidRuns : PySem.W.kitOne K (.ref c_Closed) (.ref c_InvalidRuns) = some false)
    (yk_Opened_InvalidRuns : PySem.W.kitOne K (.ref c_Opened) (.ref c_InvalidRuns) = some false)
    (yk_InvalidNumber_InvalidRuns : PySem.W.kitOne K (.ref c_InvalidNumber) (.ref c_InvalidRuns) = some false)
    (yk_InvalidRule_InvalidRuns : PySem.W.kitOne K (.ref c_InvalidRule) (.ref c_InvalidRuns) = some false)
    (yk_InvalidDisk_InvalidRuns : PySem.W.kitOne K (.ref c_InvalidDisk) (.ref c_InvalidRuns) = some false)
    (yk_InvalidName_InvalidRuns : PySem.W.kitOne K (.ref c_InvalidName) (.ref c_InvalidRuns) = some false)
    (yk_InvalidRuns_InvalidRuns : PySem.W.kitOne K (.ref c_InvalidRuns) (.ref c_InvalidRuns) = some true)
    (yk_InvalidBlock_InvalidRuns : PySem.W.kitOne K (.ref c_InvalidBlock) (.ref c_InvalidRuns) = some false)
    (yk_InvalidText_InvalidRuns : PySem.W.kitOne K (.ref c_InvalidText) (.ref c_InvalidRuns) = some false)
    (yk_InvalidBook_InvalidRuns : PySem.W.kitOne K (.ref c_InvalidBook) (.ref c_InvalidRuns) = some false)
    (yk_TooMany_InvalidBlock : PySem.W.kitOne K (.ref c_TooMany) (.ref c_InvalidBlock) = some false)
    (yk_Refused_InvalidBlock : PySem.W.kitOne K (.ref c_Refused) (.ref c_InvalidBlock) = some false)
    (yk_NotDone_InvalidBlock : PySem.W.kitOne K (.ref c_NotDone) (.ref c_InvalidBlock) = some false)
    (yk_NotClosed_InvalidBlock : PySem.W.kitOne K (.ref c_NotClosed) (.ref c_InvalidBlock) = some false)
    (yk_Refusable_InvalidBlock : PySem.W.kitOne K (.ref c_Refusable) (.ref c_InvalidBlock) = some false)
    (yk_InvalidChoice_InvalidBlock : PySem.W.kitOne K (.ref c_InvalidChoice) (.ref c_InvalidBlock) = some false)
    (yk_UnknownSet_InvalidBlock : PySem.W.kitOne K (.ref c_UnknownSet) (.ref c_InvalidBlock) = some false)
    (yk_InvalidCommand_InvalidBlock : PySem.W.kitOne K (.ref c_InvalidCommand) (.ref c_InvalidBlock) = some false)
    (yk_InvalidSizes_InvalidBlock : PySem.W.kitOne K (.ref c_InvalidSizes) (.ref c_InvalidBlock) = some false)
    (yk_InvalidState_InvalidBlock : PySem.W.kitOne K (.ref c_InvalidState) (.ref c_InvalidBlock) = some false)
    (yk_InvalidTable_InvalidBlock : PySem.W.kitOne K (.ref c_InvalidTable) (.ref c_InvalidBlock) = some false)
    (yk_InvalidEvent_InvalidBlock : PySem.W.kitOne K (.ref c_InvalidEvent) (.ref c_InvalidBlock) = some false)
    (yk_InvalidRow_InvalidBlock : PySem.W.kitOne K (.ref c_InvalidRow) (.ref c_InvalidBlock) = some false)
    (yk_InvalidLine_InvalidBlock : PySem.W.kitOne K (.ref c_InvalidLine) (.ref c_InvalidBlock) = some false)
    (yk_NothingLeft_InvalidBlock : PySem.W.kitOne K (.ref c_NothingLeft) (.ref c_InvalidBlock) = some false)
    (yk_KnownName_InvalidBlock : PySem.W.kitOne K (.ref c_KnownName) (.ref c_InvalidBlock) = some false)
    (yk_UnknownName_InvalidBlock : PySem.W.kitOne K (.ref c_UnknownName) (.ref c_InvalidBlock) = some false)
    (yk_Closed_InvalidBlock : PySem.W.kitOne K (.ref c_Closed) (.ref c_InvalidBlock) = some false)
    (yk_Opened_InvalidBlock : PySem.W.kitOne K (.ref c_Opened) (.ref c_InvalidBlock) = some false)
    (yk_InvalidNumber_InvalidBlock : PySem.W.kitOne K (.ref c_InvalidNumber) (.ref c_InvalidBlock) = some false)
    (yk_InvalidRule_InvalidBlock : PySem.W.kitOne K (.ref c_InvalidRule) (.ref c_InvalidBlock) = some false)
    (yk_InvalidDisk_InvalidBlock : PySem.W.kitOne K (.ref c_InvalidDisk) (.ref c_InvalidBlock) = some false)
    (yk_InvalidName_InvalidBlock : PySem.W.kitOne K (.ref c_InvalidName) (.ref c_InvalidBlock) = some false)
    (yk_InvalidRuns_InvalidBlock : PySem.W.kitOne K (.ref c_InvalidRuns) (.ref c_InvalidBlock) = some false)
    (yk_InvalidBlock_InvalidBlock : PySem.W.kitOne K (.ref c_InvalidBlock) (.ref c_InvalidBlock) = some true)
    (yk_InvalidText_InvalidBlock : PySem.W.kitOne K (.ref c_InvalidText) (.ref c_InvalidBlock) = some false)
    (yk_InvalidBook_InvalidBlock : PySem.W.kitOne K (.ref c_InvalidBook) (.ref c_InvalidBlock) = some false)
    (yk_TooMany_InvalidText : PySem.W.kitOne K (.ref c_TooMany) (.ref c_InvalidText) = some false)
    (yk_Refused_InvalidText : PySem.W.kitOne K (.ref c_Refused) (.ref c_InvalidText) = some false)
    (yk_NotDone_InvalidText : PySem.W.kitOne K (.ref c_NotDone) (.ref c_InvalidText) = some false)
    (yk_NotClosed_InvalidText : PySem.W.kitOne K (.ref c_NotClosed) (.ref c_InvalidText) = some false)
    (yk_Refusable_InvalidText : PySem.W.kitOne K (.ref c_Refusable) (.ref c_InvalidText) = some false)
    (yk_InvalidChoice_InvalidText : PySem.W.kitOne K (.ref c_InvalidChoice) (.ref c_InvalidText) = some false)
    (yk_UnknownSet_InvalidText : PySem.W.kitOne K (.ref c_UnknownSet) (.ref c_InvalidText) = some false)
    (yk_InvalidCommand_InvalidText : PySem.W.kitOne K (.ref c_InvalidCommand) (.ref c_InvalidText) = some false)
    (yk_InvalidSizes_InvalidText : PySem.W.kitOne K (.ref c_InvalidSizes) (.ref c_InvalidText) = some false)
    (yk_InvalidState_InvalidText : PySem.W.kitOne K (.ref c_InvalidState) (.ref c_InvalidText) = some false)
    (yk_InvalidTable_InvalidText : PySem.W.kitOne K (.ref c_InvalidTable) (.ref c_InvalidText) = some false)
    (yk_InvalidEvent_InvalidText : PySem.W.kitOne K (.ref c_InvalidEvent) (.ref c_InvalidText) = some false)
    (yk_InvalidRow_InvalidText : PySem.W.kitOne K (.ref c_InvalidRow) (.ref c_InvalidText) = some false)
    (yk_InvalidLine_InvalidText : PySem.W.kitOne K (.ref c_InvalidLine) (.ref c_InvalidText) = some false)
    (yk_NothingLeft_InvalidText : PySem.W.kitOne K (.ref c_NothingLeft) (.ref c_InvalidText) = some false)
    (yk_KnownName_InvalidText : PySem.W.kitOne K (.ref c_KnownName) (.ref c_InvalidText) = some false)
    (yk_UnknownName_InvalidText : PySem.W.kitOne K (.ref c_UnknownName) (.ref c_InvalidText) = some false)
    (yk_Closed_InvalidText : PySem.W.kitOne K (.ref c_Closed) (.ref c_InvalidText) = some false)
    (yk_Opened_InvalidText : PySem.W.kitOne K (.ref c_Opened) (.ref c_InvalidText) = some false)
    (yk_InvalidNumber_InvalidText : PySem.W.kitOne K (.ref c_InvalidNumber) (.ref c_InvalidText) = some false)
    (yk_InvalidRule_InvalidText : PySem.W.kitOne K (.ref c_InvalidRule) (.ref c_InvalidText) = some false)
    (yk_InvalidDisk_InvalidText : PySem.W.kitOne K (.ref c_InvalidDisk) (.ref c_InvalidText) = some false)
    (yk_InvalidName_InvalidText : PySem.W.kitOne K (.ref c_InvalidName) (.ref c_InvalidText) = some false)
    (yk_InvalidRuns_InvalidText : PySem.W.kitOne K (.ref c_InvalidRuns) (.ref c_InvalidText) = some false)
    (yk_InvalidBlock_InvalidText : PySem.W.kitOne K (.ref c_InvalidBlock) (.ref c_InvalidText) = some false)
    (yk_InvalidText_InvalidText : PySem.W.kitOne K (.ref c_InvalidText) (.ref c_InvalidText) = some true)
    (yk_InvalidBook_InvalidText : PySem.W.kitOne K (.ref c_InvalidBook) (.ref c_InvalidText) = some false)
    (yk_TooMany_GrowError : PySem.W.kitOne K (.ref c_TooMany) (.ref c_GrowError) = some true)
    (yk_Refused_GrowError : PySem.W.kitOne K (.ref c_Refused) (.ref c_GrowError) = some true)
    (yk_NotDone_GrowError : PySem.W.kitOne K (.ref c_NotDone) (.ref c_GrowError) = some true)
    (yk_NotClosed_GrowError : PySem.W.kitOne K (.ref c_NotClosed) (.ref c_GrowError) = some true)
    (yk_Refusable_GrowError : PySem.W.kitOne K (.ref c_Refusable) (.ref c_GrowError) = some true)
    (yk_InvalidChoice_GrowError : PySem.W.kitOne K (.ref c_InvalidChoice) (.ref c_GrowError) = some true)
    (yk_UnknownSet_GrowError : PySem.W.kitOne K (.ref c_UnknownSet) (.ref c_GrowError) = some true)
    (yk_InvalidCommand_GrowError : PySem.W.kitOne K (.ref c_InvalidCommand) (.ref c_GrowError) = some true)
    (yk_InvalidSizes_GrowError : PySem.W.kitOne K (.ref c_InvalidSizes) (.ref c_GrowError) = some true)
    (yk_InvalidState_GrowError : PySem.W.kitOne K (.ref c_InvalidState) (.ref c_GrowError) = some true)
    (yk_InvalidTable_GrowError : PySem.W.kitOne K (.ref c_InvalidTable) (.ref c_GrowError) = some true)
    (yk_InvalidEvent_GrowError : PySem.W.kitOne K (.ref c_InvalidEvent) (.ref c_GrowError) = some true)
    (yk_InvalidRow_GrowError : PySem.W.kitOne K (.ref c_InvalidRow) (.ref c_GrowError) = some true)
    (yk_InvalidLine_GrowError : PySem.W.kitOne K (.ref c_InvalidLine) (.ref c_GrowError) = some true)
    (yk_NothingLeft_GrowError : PySem.W.kitOne K (.ref c_NothingLeft) (.ref c_GrowError) = some true)
    (yk_KnownName_GrowError : PySem.W.kitOne K (.ref c_KnownName) (.ref c_GrowError) = some true)
    (yk_UnknownName_GrowError : PySem.W.kitOne K (.ref c_UnknownName) (.ref c_GrowError) = some true)
    (yk_Closed_GrowError : PySem.W.kitOne K (.ref c_Closed) (.ref c_GrowError) = some true)
    (yk_Opened_GrowError : PySem.W.kitOne K (.ref c_Opened) (.ref c_GrowError) = some true)
    (yk_InvalidNumber_GrowError : PySem.W.kitOne K (.ref c_InvalidNumber) (.ref c_GrowError) = some true)
    (yk_InvalidRule_GrowError : PySem.W.kitOne K (.ref c_InvalidRule) (.ref c_GrowError) = some true)
    (yk_InvalidDisk_GrowError : PySem.W.kitOne K (.ref c_InvalidDisk) (.ref c_GrowError) = some true)
    (yk_InvalidName_GrowError : PySem.W.kitOne K (.ref c_InvalidName) (.ref c_GrowError) = some true)
    (yk_InvalidRuns_GrowError : PySem.W.kitOne K (.ref c_InvalidRuns) (.ref c_GrowError) = some true)
    (yk_InvalidBlock_GrowError : PySem.W.kitOne K (.ref c_InvalidBlock) (.ref c_GrowError) = some true)
    (yk_InvalidText_GrowError : PySem.W.kitOne K (.ref c_InvalidText) (.ref c_GrowError) = some true)
    (yk_InvalidBook_GrowError : PySem.W.kitOne K (.ref c_InvalidBook) (.ref c_GrowError) = some true) :
    ∃ fd : FuncData, (∀ (s : Shared) (v : Value), BindsTo s fd ⟨[v], []⟩ [("_law_script", v)]) ∧ ∀ base : Heap, K.In base → base.Ns mainGlobals mg → FnOk l.prog w K mg base (L2.CX l.prog w) 4 fa fd ["_law_script"] (liftSp K 1 C_law) := by
  have e := hfa.symm.trans (PySem.W.mg_of X G a7)
  cases e
  have F1 := fun_mk (st := s_law_hand) l1 c1 k1
  have b1 := F1.binds (ps := ["_law_script", "_law_k"]) fun _ _ _ _ _ _ us hl => match us, hl with | [_, _], _ => rfl
  have F2 := fun_mk (st := s_law_draw) l2 c2 k2
  have b2 := F2.binds (ps := ["_law_pool", "_law_limit"]) fun _ _ _ _ _ _ us hl => match us, hl with | [_, _], _ => rfl
  have F3 := fun_mk (st := s_law_objects) l3 c3 k3
  have b3 := F3.binds (ps := ["_law_held", "_law_other"]) fun _ _ _ _ _ _ us hl => match us, hl with | [_, _], _ => rfl
  have F4 := fun_mk (st := s_law_classes) l4 c4 k4
  have b4 := F4.binds (ps := ["_law_one"]) fun _ _ _ _ _ _ us hl => match us, hl with | [_], _ => rfl
  have F5 := fun_mk (st := s_law_fields) l5 c5 k5
  have b5 := F5.binds (ps := ["_law_held"]) fun _ _ _ _ _ _ us hl => match us, hl with | [_], _ => rfl
  have F6 := fun_mk (st := s_law_placed) l6 c6 k6
  have b6 := F6.binds (ps := ["_law_held"]) fun _ _ _ _ _ _ us hl => match us, hl with | [_], _ => rfl
  have F7 := fun_mk (st := s_law) l7 c7 k7
  have b7 := F7.binds (ps := ["_law_script"]) fun _ _ _ _ _ _ us hl => match us, hl with | [_], _ => rfl
  have FI_TooMany := fun_mk (st := si_TooMany) xl_TooMany xc_TooMany xki_TooMany
  have BI_TooMany := FI_TooMany.binds (ps := ["self", "number"]) fun _ _ _ _ _ _ us hl => match us, hl with | [_, _], _ => rfl
  have KE_TooMany : KBe K _ ["self", "number"] ["number"] [0] := kbe_of FI_TooMany fun _ _ _ _ _ _ a ws hl => match ws, hl with | [_], _ => rfl
  have FI_Refused := fun_mk (st := si_Refused) xl_Refused xc_Refused xki_Refused
  have BI_Refused := FI_Refused.binds (ps := ["self", "name", "need"]) fun _ _ _ _ _ _ us hl => match us, hl with | [_, _, _], _ => rfl
  have KE_Refused : KBe K _ ["self", "name", "need"] ["need", "name"] [1, 0] := kbe_of FI_Refused fun _ _ _ _ _ _ a ws hl => match ws, hl with | [_, _], _ => rfl
  have KF_Refused : KBe K _ ["self", "name", "need"] ["name", "need"] [0, 1] := kbe_of FI_Refused fun _ _ _ _ _ _ a ws hl => match ws, hl with | [_, _], _ => rfl
  have FI_NotDone := fun_mk (st := si_NotDone) xl_NotDone xc_NotDone xki_NotDone
  have BI_NotDone := FI_NotDone.binds (ps := ["self", "number", "error"]) fun _ _ _ _ _ _ us hl => match us, hl with | [_, _, _], _ => rfl
  have KE_NotDone : KBe K _ ["self", "number", "error"] ["error", "number"] [1, 0] := kbe_of FI_NotDone fun _ _ _ _ _ _ a ws hl => match ws, hl with | [_, _], _ => rfl
  have KF_NotDone : KBe K _ ["self", "number", "error"] ["number", "error"] [0, 1] := kbe_of FI_NotDone fun _ _ _ _ _ _ a ws hl => match ws, hl with | [_, _], _ => rfl
  have FI_NotClosed := fun_mk (st := si_NotClosed) xl_NotClosed xc_NotClosed xki_NotClosed
  have BI_NotClosed := FI_NotClosed.binds (ps := ["self", "number"]) fun _ _ _ _ _ _ us hl => match us, hl with | [_, _], _ => rfl
  have KE_NotClosed : KBe K _ ["self", "number"] ["number"] [0] := kbe_of FI_NotClosed fun _ _ _ _ _ _ a ws hl => match ws, hl with | [_], _ => rfl
  have FI_Refusable := fun_mk (st := si_Refusable) xl_Refusable xc_Refusable xki_Refusable
  have BI_Refusable := FI_Refusable.binds (ps := ["self", "row"]) fun _ _ _ _ _ _ us hl => match us, hl with | [_, _], _ => rfl
  have KE_Refusable : KBe K _ ["self", "row"] ["row"] [0] := kbe_of FI_Refusable fun _ _ _ _ _ _ a ws hl => match ws, hl with | [_], _ => rfl
  have FI_InvalidChoice := fun_mk (st := si_InvalidChoice) xl_InvalidChoice xc_InvalidChoice xki_InvalidChoice
  have BI_InvalidChoice := FI_InvalidChoice.binds (ps := ["self", "number"]) fun _ _ _ _ _ _ us hl => match us, hl with | [_, _], _ => rfl
  have KE_InvalidChoice : KBe K _ ["self", "number"] ["number"] [0] := kbe_of FI_InvalidChoice fun _ _ _ _ _ _ a ws hl => match ws, hl with | [_], _ => rfl
  have FI_UnknownSet := fun_mk (st := si_UnknownSet) xl_UnknownSet xc_UnknownSet xki_UnknownSet
  have BI_UnknownSet := FI_UnknownSet.binds (ps := ["self", "picks"]) fun _ _ _ _ _ _ us hl => match us, hl with | [_, _], _ => rfl
  have KE_UnknownSet : KBe K _ ["self", "picks"] ["picks"] [0] := kbe_of FI_UnknownSet fun _ _ _ _ _ _ a ws hl => match ws, hl with | [_], _ => rfl
  have FI_InvalidCommand := fun_mk (st := si_InvalidCommand) xl_InvalidCommand xc_InvalidCommand xki_InvalidCommand
  have BI_InvalidCommand := FI_InvalidCommand.binds (ps := ["self", "row"]) fun _ _ _ _ _ _ us hl => match us, hl with | [_, _], _ => rfl
  have KE_InvalidCommand : KBe K _ ["self", "row"] ["row"] [0] := kbe_of FI_InvalidCommand fun _ _ _ _ _ _ a ws hl => match ws, hl with | [_], _ => rfl
  have FI_InvalidSizes := fun_mk (st := si_InvalidSizes) xl_InvalidSizes xc_InvalidSizes xki_InvalidSizes
  have BI_InvalidSizes := FI_InvalidSizes.binds (ps := ["self", "number"]) fun _ _ _ _ _ _ us hl => match us, hl with | [_, _], _ => rfl
  have KE_InvalidSizes : KBe K _ ["self", "number"] ["number"] [0] := kbe_of FI_InvalidSizes fun _ _ _ _ _ _ a ws hl => match ws, hl with | [_], _ => rfl
  have FI_InvalidState := fun_mk (st := si_InvalidState) xl_InvalidState xc_InvalidState xki_InvalidState
  have BI_InvalidState := FI_InvalidState.binds (ps := ["self", "state"]) fun _ _ _ _ _ _ us hl => match us, hl with | [_, _], _ => rfl
  have KE_InvalidState : KBe K _ ["self", "state"] ["state"] [0] := kbe_of FI_InvalidState fun _ _ _ _ _ _ a ws hl => match ws, hl with | [_], _ => rfl
  have FI_InvalidTable := fun_mk (st := si_InvalidTable) xl_InvalidTable xc_InvalidTable xki_InvalidTable
  have BI_InvalidTable := FI_InvalidTable.binds (ps := ["self", "thing"]) fun _ _ _ _ _ _ us hl => match us, hl with | [_, _], _ => rfl
  have KE_InvalidTable : KBe K _ ["self", "thing"] ["thing"] [0] := kbe_of FI_InvalidTable fun _ _ _ _ _ _ a ws hl => match ws, hl with | [_], _ => rfl
  have FI_InvalidEvent := fun_mk (st := si_InvalidEvent) xl_InvalidEvent xc_InvalidEvent xki_InvalidEvent
  have BI_InvalidEvent := FI_InvalidEvent.binds (ps := ["self", "event"]) fun _ _ _ _ _ _ us hl => match us, hl with | [_, _], _ => rfl
  have KE_InvalidEvent : KBe K _ ["self", "event"] ["event"] [0] := kbe_of FI_InvalidEvent fun _ _ _ _ _ _ a ws hl => match ws, hl with | [_], _ => rfl
  have FI_InvalidRow := fun_mk (st := si_InvalidRow) xl_InvalidRow xc_InvalidRow xki_InvalidRow
  have BI_InvalidRow := FI_InvalidRow.binds (ps := ["self", "number"]) fun _ _ _ _ _ _ us hl => match us, hl with | [_, _], _ => rfl
  have KE_InvalidRow : KBe K _ ["self", "number"] ["number"] [0] := kbe_of FI_InvalidRow fun _ _ _ _ _ _ a ws hl => match ws, hl with | [_], _ => rfl
  have FI_InvalidLine := fun_mk (st := si_InvalidLine) xl_InvalidLine xc_InvalidLine xki_InvalidLine
  have BI_InvalidLine := FI_InvalidLine.binds (ps := ["self", "number"]) fun _ _ _ _ _ _ us hl => match us, hl with | [_, _], _ => rfl
  have KE_InvalidLine : KBe K _ ["self", "number"] ["number"] [0] := kbe_of FI_InvalidLine fun _ _ _ _ _ _ a ws hl => match ws, hl with | [_], _ => rfl
  have FI_NothingLeft := fun_mk (st := si_NothingLeft) xl_NothingLeft xc_NothingLeft xki_NothingLeft
  have BI_NothingLeft := FI_NothingLeft.binds (ps := ["self", "many"]) fun _ _ _ _ _ _ us hl => match us, hl with | [_, _], _ => rfl
  have KE_NothingLeft : KBe K _ ["self", "many"] ["many"] [0] := kbe_of FI_NothingLeft fun _ _ _ _ _ _ a ws hl => match ws, hl with | [_], _ => rfl
  have FI_KnownName := fun_mk (st := si_KnownName) xl_KnownName xc_KnownName xki_KnownName
  have BI_KnownName := FI_KnownName.binds (ps := ["self", "name"]) fun _ _ _ _ _ _ us hl => match us, hl with | [_, _], _ => rfl
  have KE_KnownName : KBe K _ ["self", "name"] ["name"] [0] := kbe_of FI_KnownName fun _ _ _ _ _ _ a ws hl => match ws, hl with | [_], _ => rfl
  have FI_UnknownName := fun_mk (st := si_UnknownName) xl_UnknownName xc_UnknownName xki_UnknownName
  have BI_UnknownName := FI_UnknownName.binds (ps := ["self", "name"]) fun _ _ _ _ _ _ us hl => match us, hl with | [_, _], _ => rfl
  have KE_UnknownName : KBe K _ ["self", "name"] ["name"] [0] := kbe_of FI_UnknownName fun _ _ _ _ _ _ a ws hl => match ws, hl with | [_], _ => rfl
  have FI_Closed := fun_mk (st := si_Closed) xl_Closed xc_Closed xki_Closed
  have BI_Closed := FI_Closed.binds (ps := ["self", "name"]) fun _ _ _ _ _ _ us hl => match us, hl with | [_, _], _ => rfl
  have KE_Closed : KBe K _ ["self", "name"] ["name"] [0] := kbe_of FI_Closed fun _ _ _ _ _ _ a ws hl => match ws, hl with | [_], _ => rfl
  have FI_Opened := fun_mk (st := si_Opened) xl_Opened xc_Opened xki_Opened
  have BI_Opened := FI_Opened.binds (ps := ["self", "name"]) fun _ _ _ _ _ _ us hl => match us, hl with | [_, _], _ => rfl
  have KE_Opened : KBe K _ ["self", "name"] ["name"] [0] := kbe_of FI_Opened fun _ _ _ _ _ _ a ws hl => match ws, hl with | [_], _ => rfl
  have FI_InvalidNumber := fun_mk (st := si_InvalidNumber) xl_InvalidNumber xc_InvalidNumber xki_InvalidNumber
  have BI_InvalidNumber := FI_InvalidNumber.binds (ps := ["self", "number"]) fun _ _ _ _ _ _ us hl => match us, hl with | [_, _], _ => rfl
  have KE_InvalidNumber : KBe K _ ["self", "number"] ["number"] [0] := kbe_of FI_InvalidNumber fun _ _ _ _ _ _ a ws hl => match ws, hl with | [_], _ => rfl
  have FI_InvalidRule := fun_mk (st := si_InvalidRule) xl_InvalidRule xc_InvalidRule xki_InvalidRule
  have BI_InvalidRule := FI_InvalidRule.binds (ps := ["self", "rule"]) fun _ _ _ _ _ _ us hl => match us, hl with | [_, _], _ => rfl
  have KE_InvalidRule : KBe K _ ["self", "rule"] ["rule"] [0] := kbe_of FI_InvalidRule fun _ _ _ _ _ _ a ws hl => match ws, hl with | [_], _ => rfl
  have FI_InvalidDisk := fun_mk (st := si_InvalidDisk) xl_InvalidDisk xc_InvalidDisk xki_InvalidDisk
  have BI_InvalidDisk := FI_InvalidDisk.binds (ps := ["self", "part"]) fun _ _ _ _ _ _ us hl => match us, hl with | [_, _], _ => rfl
  have KE_InvalidDisk : KBe K _ ["self", "part"] ["part"] [0] := kbe_of FI_InvalidDisk fun _ _ _ _ _ _ a ws hl => match ws, hl with | [_], _ => rfl
  have FI_InvalidName := fun_mk (st := si_InvalidName) xl_InvalidName xc_InvalidName xki_InvalidName
  have BI_InvalidName := FI_InvalidName.binds (ps := ["self", "name"]) fun _ _ _ _ _ _ us hl => match us, hl with | [_, _], _ => rfl
  have KE_InvalidName : KBe K _ ["self", "name"] ["name"] [0] := kbe_of FI_InvalidName fun _ _ _ _ _ _ a ws hl => match ws, hl with | [_], _ => rfl
  have FI_InvalidRuns := fun_mk (st := si_InvalidRuns) xl_InvalidRuns xc_InvalidRuns xki_InvalidRuns
  have BI_InvalidRuns := FI_InvalidRuns.binds (ps := ["self", "number"]) fun _ _ _ _ _ _ us hl => match us, hl with | [_, _], _ => rfl
  have KE_InvalidRuns : KBe K _ ["self", "number"] ["number"] [0] := kbe_of FI_InvalidRuns fun _ _ _ _ _ _ a ws hl => match ws, hl with | [_], _ => rfl
  have FI_InvalidBlock := fun_mk (st := si_InvalidBlock) xl_InvalidBlock xc_InvalidBlock xki_InvalidBlock
  have BI_InvalidBlock := FI_InvalidBlock.binds (ps := ["self", "block"]) fun _ _ _ _ _ _ us hl => match us, hl with | [_, _], _ => rfl
  have KE_InvalidBlock : KBe K _ ["self", "block"] ["block"] [0] := kbe_of FI_InvalidBlock fun _ _ _ _ _ _ a ws hl => match ws, hl with | [_], _ => rfl
  have FI_InvalidText := fun_mk (st := si_InvalidText) xl_InvalidText xc_InvalidText xki_InvalidText
  have BI_InvalidText := FI_InvalidText.binds (ps := ["self", "text"]) fun _ _ _ _ _ _ us hl => match us, hl with | [_, _], _ => rfl
  have KE_InvalidText : KBe K _ ["self", "text"] ["text"] [0] := kbe_of FI_InvalidText fun _ _ _ _ _ _ a ws hl => match ws, hl with | [_], _ => rfl
  have FI_InvalidBook := fun_mk (st := si_InvalidBook) xl_InvalidBook xc_InvalidBook xki_InvalidBook
  have BI_InvalidBook := FI_InvalidBook.binds (ps := ["self", "part"]) fun _ _ _ _ _ _ us hl => match us, hl with | [_, _], _ => rfl
  have KE_InvalidBook : KBe K _ ["self", "part"] ["part"] [0] := kbe_of FI_InvalidBook fun _ _ _ _ _ _ a ws hl => match ws, hl with | [_], _ => rfl
  have TT : Tx K mg { f_law_hand := f1, d_law_hand := _, f_law_draw := f2, d_law_draw := _, f_law_objects := f3, d_law_objects := _, f_law_classes := f4, d_law_classes := _, f_law_fields := f5, d_law_fields := _, f_law_placed := f6, d_law_placed := _, f_law := fa, d_law := _, c_TooMany := c_TooMany, c_GrowError := c_GrowError, c_Refused := c_Refused, c_NotDone := c_NotDone, c_NotClosed := c_NotClosed, c_Refusable := c_Refusable, c_InvalidChoice := c_InvalidChoice, c_UnknownSet := c_UnknownSet, c_InvalidCommand := c_InvalidCommand, c_InvalidSizes := c_InvalidSizes, c_InvalidState := c_InvalidState, c_InvalidTable := c_InvalidTable, c_InvalidEvent := c_InvalidEvent, c_InvalidRow := c_InvalidRow, c_InvalidLine := c_InvalidLine, c_NothingLeft := c_NothingLeft, c_KnownName := c_KnownName, c_UnknownName := c_UnknownName, c_Closed := c_Closed, c_Opened := c_Opened, c_InvalidNumber := c_InvalidNumber, c_InvalidRule := c_InvalidRule, c_InvalidDisk := c_InvalidDisk, c_InvalidName := c_InvalidName, c_InvalidRuns := c_InvalidRuns, c_InvalidBlock := c_InvalidBlock, c_InvalidText := c_InvalidText, c_InvalidBook := c_InvalidBook, i_TooMany := i_TooMany, e_TooMany := _, i_Refused := i_Refused, e_Refused := _, i_NotDone := i_NotDone, e_NotDone := _, i_NotClosed := i_NotClosed, e_NotClosed := _, i_Refusable := i_Refusable, e_Refusable := _, i_InvalidChoice := i_InvalidChoice, e_InvalidChoice := _, i_UnknownSet := i_UnknownSet, e_UnknownSet := _, i_InvalidCommand := i_InvalidCommand, e_InvalidCommand := _, i_InvalidSizes := i_InvalidSizes, e_InvalidSizes := _, i_InvalidState := i_InvalidState, e_InvalidState := _, i_InvalidTable := i_InvalidTable, e_InvalidTable := _, i_InvalidEvent := i_InvalidEvent, e_InvalidEvent := _, i_InvalidRow := i_InvalidRow, e_InvalidRow := _, i_InvalidLine := i_InvalidLine, e_InvalidLine := _, i_NothingLeft := i_NothingLeft, e_NothingLeft := _, i_KnownName := i_KnownName, e_KnownName := _, i_UnknownName := i_UnknownName, e_UnknownName := _, i_Closed := i_Closed, e_Closed := _, i_Opened := i_Opened, e_Opened := _, i_InvalidNumber := i_InvalidNumber, e_InvalidNumber := _, i_InvalidRule := i_InvalidRule, e_InvalidRule := _, i_InvalidDisk := i_InvalidDisk, e_InvalidDisk := _, i_InvalidName := i_InvalidName, e_InvalidName := _, i_InvalidRuns := i_InvalidRuns, e_InvalidRuns := _, i_InvalidBlock := i_InvalidBlock, e_InvalidBlock := _, i_InvalidText := i_InvalidText, e_InvalidText := _, i_InvalidBook := i_InvalidBook, e_InvalidBook := _ } := { F_law_hand := F1, b_law_hand := b1, g_law_hand := PySem.W.mg_of X G a1, F_law_draw := F2, b_law_draw := b2, g_law_draw := PySem.W.mg_of X G a2, F_law_objects := F3, b_law_objects := b3, g_law_objects := PySem.W.mg_of X G a3, F_law_classes := F4, b_law_classes := b4, g_law_classes := PySem.W.mg_of X G a4, F_law_fields := F5, b_law_fields := b5, g_law_fields := PySem.W.mg_of X G a5, F_law_placed := F6, b_law_placed := b6, g_law_placed := PySem.W.mg_of X G a6, F_law := F7, b_law := b7, g_law := PySem.W.mg_of X G a7, z_ValueError := PySem.W.mg_none_of X G z_ValueError, z_enumerate := PySem.W.mg_none_of X G z_enumerate, z_int := PySem.W.mg_none_of X G z_int, z_isinstance := PySem.W.mg_none_of X G z_isinstance, z_len := PySem.W.mg_none_of X G z_len, z_max := PySem.W.mg_none_of X G z_max, z_min := PySem.W.mg_none_of X G z_min, z_range := PySem.W.mg_none_of X G z_range, g_TooMany := PySem.W.mg_of X G ga_TooMany, g_GrowError := PySem.W.mg_of X G ga_GrowError, g_Refused := PySem.W.mg_of X G ga_Refused, g_NotDone := PySem.W.mg_of X G ga_NotDone, g_NotClosed := PySem.W.mg_of X G ga_NotClosed, g_Refusable := PySem.W.mg_of X G ga_Refusable, g_InvalidChoice := PySem.W.mg_of X G ga_InvalidChoice, g_UnknownSet := PySem.W.mg_of X G ga_UnknownSet, g_InvalidCommand := PySem.W.mg_of X G ga_InvalidCommand, g_InvalidSizes := PySem.W.mg_of X G ga_InvalidSizes, g_InvalidState := PySem.W.mg_of X G ga_InvalidState, g_InvalidTable := PySem.W.mg_of X G ga_InvalidTable, g_InvalidEvent := PySem.W.mg_of X G ga_InvalidEvent, g_InvalidRow := PySem.W.mg_of X G ga_InvalidRow, g_InvalidLine := PySem.W.mg_of X G ga_InvalidLine, g_NothingLeft := PySem.W.mg_of X G ga_NothingLeft, g_KnownName := PySem.W.mg_of X G ga_KnownName, g_UnknownName := PySem.W.mg_of X G ga_UnknownName, g_Closed := PySem.W.mg_of X G ga_Closed, g_Opened := PySem.W.mg_of X G ga_Opened, g_InvalidNumber := PySem.W.mg_of X G ga_InvalidNumber, g_InvalidRule := PySem.W.mg_of X G ga_InvalidRule, g_InvalidDisk := PySem.W.mg_of X G ga_InvalidDisk, g_InvalidName := PySem.W.mg_of X G ga_InvalidName, g_InvalidRuns := PySem.W.mg_of X G ga_InvalidRuns, g_InvalidBlock := PySem.W.mg_of X G ga_InvalidBlock, g_InvalidText := PySem.W.mg_of X G ga_InvalidText, g_InvalidBook := PySem.W.mg_of X G ga_InvalidBook, KE_TooMany := KE_TooMany, o_TooMany := ⟨⟨_, _, _, _, _, _, _, _, _, _, _, _, _, _, _, xL_TooMany, rfl⟩, xsa_TooMany, xe_TooMany, xty_TooMany, xk_TooMany⟩, i_TooMany := xi_TooMany, t_TooMany := xt_TooMany, n_TooMany := xnf_TooMany, FI_TooMany := FI_TooMany, BI_TooMany := BI_TooMany, x_TooMany := ⟨xga_TooMany, xgg_TooMany, xe_TooMany, xh_TooMany⟩, q_TooMany := ⟨xga_TooMany, xgg_TooMany, xe_TooMany, xh_TooMany, xcl_TooMany, xsp_TooMany, xtk_TooMany, xm_TooMany⟩, KE_Refused := KE_Refused, KF_Refused := KF_Refused, o_Refused := ⟨⟨_, _, _, _, _, _, _, _, _, _, _, _, _, _, _, xL_Refused, rfl⟩, xsa_Refused, xe_Refused, xty_Refused, xk_Refused⟩, i_Refused := xi_Refused, t_Refused := xt_Refused, n_Refused := xnf_Refused, n2_Refused := xnf2_Refused, FI_Refused := FI_Refused, BI_Refused := BI_Refused, x_Refused := ⟨xga_Refused, xgg_Refused, xe_Refused, xh_Refused⟩, q_Refused := ⟨xga_Refused, xgg_Refused, xe_Refused, xh_Refused, xcl_Refused, xsp_Refused, xtk_Refused, xm_Refused⟩, KE_NotDone := KE_NotDone, KF_NotDone := KF_NotDone, o_NotDone := ⟨⟨_, _, _, _, _, _, _, _, _, _, _, _, _, _, _, xL_NotDone, rfl⟩, xsa_NotDone, xe_NotDone, xty_NotDone, xk_NotDone⟩, i_NotDone := xi_NotDone, t_NotDone := xt_NotDone, n_NotDone := xnf_NotDone, n2_NotDone := xnf2_NotDone, FI_NotDone := FI_NotDone, BI_NotDone := BI_NotDone, x_NotDone := ⟨xga_NotDone, xgg_NotDone, xe_NotDone, xh_NotDone⟩, q_NotDone := ⟨xga_NotDone, xgg_NotDone, xe_NotDone, xh_NotDone, xcl_NotDone, xsp_NotDone, xtk_NotDone, xm_NotDone⟩, KE_NotClosed := KE_NotClosed, o_NotClosed := ⟨⟨_, _, _, _, _, _, _, _, _, _, _, _, _, _, _, xL_NotClosed, rfl⟩, xsa_NotClosed, xe_NotClosed, xty_NotClosed, xk_NotClosed⟩, i_NotClosed := xi_NotClosed, t_NotClosed := xt_NotClosed, n_NotClosed := xnf_NotClosed, FI_NotClosed := FI_NotClosed, BI_NotClosed := BI_NotClosed, x_NotClosed := ⟨xga_NotClosed, xgg_NotClosed, xe_NotClosed, xh_NotClosed⟩, q_NotClosed := ⟨xga_NotClosed, xgg_NotClosed, xe_NotClosed, xh_NotClosed, xcl_NotClosed, xsp_NotClosed, xtk_NotClosed, xm_NotClosed⟩, KE_Refusable := KE_Refusable, o_Refusable := ⟨⟨_, _, _, _, _, _, _, _, _, _, _, _, _, _, _, xL_Refusable, rfl⟩, xsa_Refusable, xe_Refusable, xty_Refusable, xk_Refusable⟩, i_Refusable := xi_Refusable, t_Refusable := xt_Refusable, n_Refusable := xnf_Refusable, FI_Refusable := FI_Refusable, BI_Refusable := BI_Refusable, x_Refusable := ⟨xga_Refusable, xgg_Refusable, xe_Refusable, xh_Refusable⟩, q_Refusable := ⟨xga_Refusable, xgg_Refusable, xe_Refusable, xh_Refusable, xcl_Refusable, xsp_Refusable, xtk_Refusable, xm_Refusable⟩, KE_InvalidChoice := KE_InvalidChoice, o_InvalidChoice := ⟨⟨_, _, _, _, _, _, _, _, _, _, _, _, _, _, _, xL_InvalidChoice, rfl⟩, xsa_InvalidChoice, xe_InvalidChoice, xty_InvalidChoice, xk_InvalidChoice⟩, i_InvalidChoice := xi_InvalidChoice, t_InvalidChoice := xt_InvalidChoice, n_InvalidChoice := xnf_InvalidChoice, FI_InvalidChoice := FI_InvalidChoice, BI_InvalidChoice := BI_InvalidChoice, x_InvalidChoice := ⟨xga_InvalidChoice, xgg_InvalidChoice, xe_InvalidChoice, xh_InvalidChoice⟩, q_InvalidChoice := ⟨xga_InvalidChoice, xgg_InvalidChoice, xe_InvalidChoice, xh_InvalidChoice, xcl_InvalidChoice, xsp_InvalidChoice, xtk_InvalidChoice, xm_InvalidChoice⟩, KE_UnknownSet := KE_UnknownSet, o_UnknownSet := ⟨⟨_, _, _, _, _, _, _, _, _, _, _, _, _, _, _, xL_UnknownSet, rfl⟩, xsa_UnknownSet, xe_UnknownSet, xty_UnknownSet, xk_UnknownSet⟩, i_UnknownSet := xi_UnknownSet, t_UnknownSet := xt_UnknownSet, n_UnknownSet := xnf_UnknownSet, FI_UnknownSet := FI_UnknownSet, BI_UnknownSet := BI_UnknownSet, x_UnknownSet := ⟨xga_UnknownSet, xgg_UnknownSet, xe_UnknownSet, xh_UnknownSet⟩, q_UnknownSet := ⟨xga_UnknownSet, xgg_UnknownSet, xe_UnknownSet, xh_UnknownSet, xcl_UnknownSet, xsp_UnknownSet, xtk_UnknownSet, xm_UnknownSet⟩, KE_InvalidCommand := KE_InvalidCommand, o_InvalidCommand := ⟨⟨_, _, _, _, _, _, _, _, _, _, _, _, _, _, _, xL_InvalidCommand, rfl⟩, xsa_InvalidCommand, xe_InvalidCommand, xty_InvalidCommand, xk_InvalidCommand⟩, i_InvalidCommand := xi_InvalidCommand, t_InvalidCommand := xt_InvalidCommand, n_InvalidCommand := xnf_InvalidCommand, FI_InvalidCommand := FI_InvalidCommand, BI_InvalidCommand := BI_InvalidCommand, x_InvalidCommand := ⟨xga_InvalidCommand, xgg_InvalidCommand, xe_InvalidCommand, xh_InvalidCommand⟩, q_InvalidCommand := ⟨xga_InvalidCommand, xgg_InvalidCommand, xe_InvalidCommand, xh_InvalidCommand, xcl_InvalidCommand, xsp_InvalidCommand, xtk_InvalidCommand, xm_InvalidCommand⟩, KE_InvalidSizes := KE_InvalidSizes, o_InvalidSizes := ⟨⟨_, _, _, _, _, _, _, _, _, _, _, _, _, _, _, xL_InvalidSizes, rfl⟩, xsa_InvalidSizes, xe_InvalidSizes, xty_InvalidSizes, xk_InvalidSizes⟩, i_InvalidSizes := xi_InvalidSizes, t_InvalidSizes := xt_InvalidSizes, n_InvalidSizes := xnf_InvalidSizes, FI_InvalidSizes := FI_InvalidSizes, BI_InvalidSizes := BI_InvalidSizes, x_InvalidSizes := ⟨xga_InvalidSizes, xgg_InvalidSizes, xe_InvalidSizes, xh_InvalidSizes⟩, q_InvalidSizes := ⟨xga_InvalidSizes, xgg_InvalidSizes, xe_InvalidSizes, xh_InvalidSizes, xcl_InvalidSizes, xsp_InvalidSizes, xtk_InvalidSizes, xm_InvalidSizes⟩, KE_InvalidState := KE_InvalidState, o_InvalidState := ⟨⟨_, _, _, _, _, _, _, _, _, _, _, _, _, _, _, xL_InvalidState, rfl⟩, xsa_InvalidState, xe_InvalidState, xty_InvalidState, xk_InvalidState⟩, i_InvalidState := xi_InvalidState, t_InvalidState := xt_InvalidState, n_InvalidState := xnf_InvalidState, FI_InvalidState := FI_InvalidState, BI_InvalidState := BI_InvalidState, x_InvalidState := ⟨xga_InvalidState, xgg_InvalidState, xe_InvalidState, xh_InvalidState⟩, q_InvalidState := ⟨xga_InvalidState, xgg_InvalidState, xe_InvalidState, xh_InvalidState, xcl_InvalidState, xsp_InvalidState, xtk_InvalidState, xm_InvalidState⟩, KE_InvalidTable := KE_InvalidTable, o_InvalidTable := ⟨⟨_, _, _, _, _, _, _, _, _, _, _, _, _, _, _, xL_InvalidTable, rfl⟩, xsa_InvalidTable, xe_InvalidTable, xty_InvalidTable, xk_InvalidTable⟩, i_InvalidTable := xi_InvalidTable, t_InvalidTable := xt_InvalidTable, n_InvalidTable := xnf_InvalidTable, FI_InvalidTable := FI_InvalidTable, BI_InvalidTable := BI_InvalidTable, x_InvalidTable := ⟨xga_InvalidTable, xgg_InvalidTable, xe_InvalidTable, xh_InvalidTable⟩, q_InvalidTable := ⟨xga_InvalidTable, xgg_InvalidTable, xe_InvalidTable, xh_InvalidTable, xcl_InvalidTable, xsp_InvalidTable, xtk_InvalidTable, xm_InvalidTable⟩, KE_InvalidEvent := KE_InvalidEvent, o_InvalidEvent := ⟨⟨_, _, _, _, _, _, _, _, _, _, _, _, _, _, _, xL_InvalidEvent, rfl⟩, xsa_InvalidEvent, xe_InvalidEvent, xty_InvalidEvent, xk_InvalidEvent⟩, i_InvalidEvent := xi_InvalidEvent, t_InvalidEvent := xt_InvalidEvent, n_InvalidEvent := xnf_InvalidEvent, FI_InvalidEvent := FI_InvalidEvent, BI_InvalidEvent := BI_InvalidEvent, x_InvalidEvent := ⟨xga_InvalidEvent, xgg_InvalidEvent, xe_InvalidEvent, xh_InvalidEvent⟩, q_InvalidEvent := ⟨xga_InvalidEvent, xgg_InvalidEvent, xe_InvalidEvent, xh_InvalidEvent, xcl_InvalidEvent, xsp_InvalidEvent, xtk_InvalidEvent, xm_InvalidEvent⟩, KE_InvalidRow := KE_InvalidRow, o_InvalidRow := ⟨⟨_, _, _, _, _, _, _, _, _, _, _, _, _, _, _, xL_InvalidRow, rfl⟩, xsa_InvalidRow, xe_InvalidRow, xty_InvalidRow, xk_InvalidRow⟩, i_InvalidRow := xi_InvalidRow, t_InvalidRow := xt_InvalidRow, n_InvalidRow := xnf_InvalidRow, FI_InvalidRow := FI_InvalidRow, BI_InvalidRow := BI_InvalidRow, x_InvalidRow := ⟨xga_InvalidRow, xgg_InvalidRow, xe_InvalidRow, xh_InvalidRow⟩, q_InvalidRow := ⟨xga_InvalidRow, xgg_InvalidRow, xe_InvalidRow, xh_InvalidRow, xcl_InvalidRow, xsp_InvalidRow, xtk_InvalidRow, xm_InvalidRow⟩, KE_InvalidLine := KE_InvalidLine, o_InvalidLine := ⟨⟨_, _, _, _, _, _, _, _, _, _, _, _, _, _, _, xL_InvalidLine, rfl⟩, xsa_InvalidLine, xe_InvalidLine, xty_InvalidLine, xk_InvalidLine⟩, i_InvalidLine := xi_InvalidLine, t_InvalidLine := xt_InvalidLine, n_InvalidLine := xnf_InvalidLine, FI_InvalidLine := FI_InvalidLine, BI_InvalidLine := BI_InvalidLine, x_InvalidLine := ⟨xga_InvalidLine, xgg_InvalidLine, xe_InvalidLine, xh_InvalidLine⟩, q_InvalidLine := ⟨xga_InvalidLine, xgg_InvalidLine, xe_InvalidLine, xh_InvalidLine, xcl_InvalidLine, xsp_InvalidLine, xtk_InvalidLine, xm_InvalidLine⟩, KE_NothingLeft := KE_NothingLeft, o_NothingLeft := ⟨⟨_, _, _, _, _, _, _, _, _, _, _, _, _, _, _, xL_NothingLeft, rfl⟩, xsa_NothingLeft, xe_NothingLeft, xty_NothingLeft, xk_NothingLeft⟩, i_NothingLeft := xi_NothingLeft, t_NothingLeft := xt_NothingLeft, n_NothingLeft := xnf_NothingLeft, FI_NothingLeft := FI_NothingLeft, BI_NothingLeft := BI_NothingLeft, x_NothingLeft := ⟨xga_NothingLeft, xgg_NothingLeft, xe_NothingLeft, xh_NothingLeft⟩, q_NothingLeft := ⟨xga_NothingLeft, xgg_NothingLeft, xe_NothingLeft, xh_NothingLeft, xcl_NothingLeft, xsp_NothingLeft, xtk_NothingLeft, xm_NothingLeft⟩, KE_KnownName := KE_KnownName, o_KnownName := ⟨⟨_, _, _, _, _, _, _, _, _, _, _, _, _, _, _, xL_KnownName, rfl⟩, xsa_KnownName, xe_KnownName, xty_KnownName, xk_KnownName⟩, i_KnownName := xi_KnownName, t_KnownName := xt_KnownName, n_KnownName := xnf_KnownName, FI_KnownName := FI_KnownName, BI_KnownName := BI_KnownName, x_KnownName := ⟨xga_KnownName, xgg_KnownName, xe_KnownName, xh_KnownName⟩, q_KnownName := ⟨xga_KnownName, xgg_KnownName, xe_KnownName, xh_KnownName, xcl_KnownName, xsp_KnownName, xtk_KnownName, xm_KnownName⟩, KE_UnknownName := KE_UnknownName, o_UnknownName := ⟨⟨_, _, _, _, _, _, _, _, _, _, _, _, _, _, _, xL_UnknownName, rfl⟩, xsa_UnknownName, xe_UnknownName, xty_UnknownName, xk_UnknownName⟩, i_UnknownName := xi_UnknownName, t_UnknownName := xt_UnknownName, n_UnknownName := xnf_UnknownName, FI_UnknownName := FI_UnknownName, BI_UnknownName := BI_UnknownName, x_UnknownName := ⟨xga_UnknownName, xgg_UnknownName, xe_UnknownName, xh_UnknownName⟩, q_UnknownName := ⟨xga_UnknownName, xgg_UnknownName, xe_UnknownName, xh_UnknownName, xcl_UnknownName, xsp_UnknownName, xtk_UnknownName, xm_UnknownName⟩, KE_Closed := KE_Closed, o_Closed := ⟨⟨_, _, _, _, _, _, _, _, _, _, _, _, _, _, _, xL_Closed, rfl⟩, xsa_Closed, xe_Closed, xty_Closed, xk_Closed⟩, i_Closed := xi_Closed, t_Closed := xt_Closed, n_Closed := xnf_Closed, FI_Closed := FI_Closed, BI_Closed := BI_Closed, x_Closed := ⟨xga_Closed, xgg_Closed, xe_Closed, xh_Closed⟩, q_Closed := ⟨xga_Closed, xgg_Closed, xe_Closed, xh_Closed, xcl_Closed, xsp_Closed, xtk_Closed, xm_Closed⟩, KE_Opened := KE_Opened, o_Opened := ⟨⟨_, _, _, _, _, _, _, _, _, _, _, _, _, _, _, xL_Opened, rfl⟩, xsa_Opened, xe_Opened, xty_Opened, xk_Opened⟩, i_Opened := xi_Opened, t_Opened := xt_Opened, n_Opened := xnf_Opened, FI_Opened := FI_Opened, BI_Opened := BI_Opened, x_Opened := ⟨xga_Opened, xgg_Opened, xe_Opened, xh_Opened⟩, q_Opened := ⟨xga_Opened, xgg_Opened, xe_Opened, xh_Opened, xcl_Opened, xsp_Opened, xtk_Opened, xm_Opened⟩, KE_InvalidNumber := KE_InvalidNumber, o_InvalidNumber := ⟨⟨_, _, _, _, _, _, _, _, _, _, _, _, _, _, _, xL_InvalidNumber, rfl⟩, xsa_InvalidNumber, xe_InvalidNumber, xty_InvalidNumber, xk_InvalidNumber⟩, i_InvalidNumber := xi_InvalidNumber, t_InvalidNumber := xt_InvalidNumber, n_InvalidNumber := xnf_InvalidNumber, FI_InvalidNumber := FI_InvalidNumber, BI_InvalidNumber := BI_InvalidNumber, x_InvalidNumber := ⟨xga_InvalidNumber, xgg_InvalidNumber, xe_InvalidNumber, xh_InvalidNumber⟩, q_InvalidNumber := ⟨xga_InvalidNumber, xgg_InvalidNumber, xe_InvalidNumber, xh_InvalidNumber, xcl_InvalidNumber, xsp_InvalidNumber, xtk_InvalidNumber, xm_InvalidNumber⟩, KE_InvalidRule := KE_InvalidRule, o_InvalidRule := ⟨⟨_, _, _, _, _, _, _, _, _, _, _, _, _, _, _, xL_InvalidRule, rfl⟩, xsa_InvalidRule, xe_InvalidRule, xty_InvalidRule, xk_InvalidRule⟩, i_InvalidRule := xi_InvalidRule, t_InvalidRule := xt_InvalidRule, n_InvalidRule := xnf_InvalidRule, FI_InvalidRule := FI_InvalidRule, BI_InvalidRule := BI_InvalidRule, x_InvalidRule := ⟨xga_InvalidRule, xgg_InvalidRule, xe_InvalidRule, xh_InvalidRule⟩, q_InvalidRule := ⟨xga_InvalidRule, xgg_InvalidRule, xe_InvalidRule, xh_InvalidRule, xcl_InvalidRule, xsp_InvalidRule, xtk_InvalidRule, xm_InvalidRule⟩, KE_InvalidDisk := KE_InvalidDisk, o_InvalidDisk := ⟨⟨_, _, _, _, _, _, _, _, _, _, _, _, _, _, _, xL_InvalidDisk, rfl⟩, xsa_InvalidDisk, xe_InvalidDisk, xty_InvalidDisk, xk_InvalidDisk⟩, i_InvalidDisk := xi_InvalidDisk, t_InvalidDisk := xt_InvalidDisk, n_InvalidDisk := xnf_InvalidDisk, FI_InvalidDisk := FI_InvalidDisk, BI_InvalidDisk := BI_InvalidDisk, x_InvalidDisk := ⟨xga_InvalidDisk, xgg_InvalidDisk, xe_InvalidDisk, xh_InvalidDisk⟩, q_InvalidDisk := ⟨xga_InvalidDisk, xgg_InvalidDisk, xe_InvalidDisk, xh_InvalidDisk, xcl_InvalidDisk, xsp_InvalidDisk, xtk_InvalidDisk, xm_InvalidDisk⟩, KE_InvalidName := KE_InvalidName, o_InvalidName := ⟨⟨_, _, _, _, _, _, _, _, _, _, _, _, _, _, _, xL_InvalidName, rfl⟩, xsa_InvalidName, xe_InvalidName, xty_InvalidName, xk_InvalidName⟩, i_InvalidName := xi_InvalidName, t_InvalidName := xt_InvalidName, n_InvalidName := xnf_InvalidName, FI_InvalidName := FI_InvalidName, BI_InvalidName := BI_InvalidName, x_InvalidName := ⟨xga_InvalidName, xgg_InvalidName, xe_InvalidName, xh_InvalidName⟩, q_InvalidName := ⟨xga_InvalidName, xgg_InvalidName, xe_InvalidName, xh_InvalidName, xcl_InvalidName, xsp_InvalidName, xtk_InvalidName, xm_InvalidName⟩, KE_InvalidRuns := KE_InvalidRuns, o_InvalidRuns := ⟨⟨_, _, _, _, _, _, _, _, _, _, _, _, _, _, _, xL_InvalidRuns, rfl⟩, xsa_InvalidRuns, xe_InvalidRuns, xty_InvalidRuns, xk_InvalidRuns⟩, i_InvalidRuns := xi_InvalidRuns, t_InvalidRuns := xt_InvalidRuns, n_InvalidRuns := xnf_InvalidRuns, FI_InvalidRuns := FI_InvalidRuns, BI_InvalidRuns := BI_InvalidRuns, x_InvalidRuns := ⟨xga_InvalidRuns, xgg_InvalidRuns, xe_InvalidRuns, xh_InvalidRuns⟩, q_InvalidRuns := ⟨xga_InvalidRuns, xgg_InvalidRuns, xe_InvalidRuns, xh_InvalidRuns, xcl_InvalidRuns, xsp_InvalidRuns, xtk_InvalidRuns, xm_InvalidRuns⟩, KE_InvalidBlock := KE_InvalidBlock, o_InvalidBlock := ⟨⟨_, _, _, _, _, _, _, _, _, _, _, _, _, _, _, xL_InvalidBlock, rfl⟩, xsa_InvalidBlock, xe_InvalidBlock, xty_InvalidBlock, xk_InvalidBlock⟩, i_InvalidBlock := xi_InvalidBlock, t_InvalidBlock := xt_InvalidBlock, n_InvalidBlock := xnf_InvalidBlock, FI_InvalidBlock := FI_InvalidBlock, BI_InvalidBlock := BI_InvalidBlock, x_InvalidBlock := ⟨xga_InvalidBlock, xgg_InvalidBlock, xe_InvalidBlock, xh_InvalidBlock⟩, q_InvalidBlock := ⟨xga_InvalidBlock, xgg_InvalidBlock, xe_InvalidBlock, xh_InvalidBlock, xcl_InvalidBlock, xsp_InvalidBlock, xtk_InvalidBlock, xm_InvalidBlock⟩, KE_InvalidText := KE_InvalidText, o_InvalidText := ⟨⟨_, _, _, _, _, _, _, _, _, _, _, _, _, _, _, xL_InvalidText, rfl⟩, xsa_InvalidText, xe_InvalidText, xty_InvalidText, xk_InvalidText⟩, i_InvalidText := xi_InvalidText, t_InvalidText := xt_InvalidText, n_InvalidText := xnf_InvalidText, FI_InvalidText := FI_InvalidText, BI_InvalidText := BI_InvalidText, x_InvalidText := ⟨xga_InvalidText, xgg_InvalidText, xe_InvalidText, xh_InvalidText⟩, q_InvalidText := ⟨xga_InvalidText, xgg_InvalidText, xe_InvalidText, xh_InvalidText, xcl_InvalidText, xsp_InvalidText, xtk_InvalidText, xm_InvalidText⟩, KE_InvalidBook := KE_InvalidBook, o_InvalidBook := ⟨⟨_, _, _, _, _, _, _, _, _, _, _, _, _, _, _, xL_InvalidBook, rfl⟩, xsa_InvalidBook, xe_InvalidBook, xty_InvalidBook, xk_InvalidBook⟩, i_InvalidBook := xi_InvalidBook, t_InvalidBook := xt_InvalidBook, n_InvalidBook := xnf_InvalidBook, FI_InvalidBook := FI_InvalidBook, BI_InvalidBook := BI_InvalidBook, x_InvalidBook := ⟨xga_InvalidBook, xgg_InvalidBook, xe_InvalidBook, xh_InvalidBook⟩, q_InvalidBook := ⟨xga_InvalidBook, xgg_InvalidBook, xe_InvalidBook, xh_InvalidBook, xcl_InvalidBook, xsp_InvalidBook, xtk_InvalidBook, xm_InvalidBook⟩, k_TooMany_ValueError := yk_TooMany_ValueError, k_Refused_ValueError := yk_Refused_ValueError, k_NotDone_ValueError := yk_NotDone_ValueError, k_NotClosed_ValueError := yk_NotClosed_ValueError, k_Refusable_ValueError := yk_Refusable_ValueError, k_InvalidChoice_ValueError := yk_InvalidChoice_ValueError, k_UnknownSet_ValueError := yk_UnknownSet_ValueError, k_InvalidCommand_ValueError := yk_InvalidCommand_ValueError, k_InvalidSizes_ValueError := yk_InvalidSizes_ValueError, k_InvalidState_ValueError := yk_InvalidState_ValueError, k_InvalidTable_ValueError := yk_InvalidTable_ValueError, k_InvalidEvent_ValueError := yk_InvalidEvent_ValueError, k_InvalidRow_ValueError := yk_InvalidRow_ValueError, k_InvalidLine_ValueError := yk_InvalidLine_ValueError, k_NothingLeft_ValueError := yk_NothingLeft_ValueError, k_KnownName_ValueError := yk_KnownName_ValueError, k_UnknownName_ValueError := yk_UnknownName_ValueError, k_Closed_ValueError := yk_Closed_ValueError, k_Opened_ValueError := yk_Opened_ValueError, k_InvalidNumber_ValueError := yk_InvalidNumber_ValueError, k_InvalidRule_ValueError := yk_InvalidRule_ValueError, k_InvalidDisk_ValueError := yk_InvalidDisk_ValueError, k_InvalidName_ValueError := yk_InvalidName_ValueError, k_InvalidRuns_ValueError := yk_InvalidRuns_ValueError, k_InvalidBlock_ValueError := yk_InvalidBlock_ValueError, k_InvalidText_ValueError := yk_InvalidText_ValueError, k_InvalidBook_ValueError := yk_InvalidBook_ValueError, k_TooMany_TooMany := yk_TooMany_TooMany, k_Refused_TooMany := yk_Refused_TooMany, k_NotDone_TooMany := yk_NotDone_TooMany, k_NotClosed_TooMany := yk_NotClosed_TooMany, k_Refusable_TooMany := yk_Refusable_TooMany, k_InvalidChoice_TooMany := yk_InvalidChoice_TooMany, k_UnknownSet_TooMany := yk_UnknownSet_TooMany, k_InvalidCommand_TooMany := yk_InvalidCommand_TooMany, k_InvalidSizes_TooMany := yk_InvalidSizes_TooMany, k_InvalidState_TooMany := yk_InvalidState_TooMany, k_InvalidTable_TooMany := yk_InvalidTable_TooMany, k_InvalidEvent_TooMany := yk_InvalidEvent_TooMany, k_InvalidRow_TooMany := yk_InvalidRow_TooMany, k_InvalidLine_TooMany := yk_InvalidLine_TooMany, k_NothingLeft_TooMany := yk_NothingLeft_TooMany, k_KnownName_TooMany := yk_KnownName_TooMany, k_UnknownName_TooMany := yk_UnknownName_TooMany, k_Closed_TooMany := yk_Closed_TooMany, k_Opened_TooMany := yk_Opened_TooMany, k_InvalidNumber_TooMany := yk_InvalidNumber_TooMany, k_InvalidRule_TooMany := yk_InvalidRule_TooMany, k_InvalidDisk_TooMany := yk_InvalidDisk_TooMany, k_InvalidName_TooMany := yk_InvalidName_TooMany, k_InvalidRuns_TooMany := yk_InvalidRuns_TooMany, k_InvalidBlock_TooMany := yk_InvalidBlock_TooMany, k_InvalidText_TooMany := yk_InvalidText_TooMany, k_InvalidBook_TooMany := yk_InvalidBook_TooMany, k_TooMany_Refused := yk_TooMany_Refused, k_Refused_Refused := yk_Refused_Refused, k_NotDone_Refused := yk_NotDone_Refused, k_NotClosed_Refused := yk_NotClosed_Refused, k_Refusable_Refused := yk_Refusable_Refused, k_InvalidChoice_Refused := yk_InvalidChoice_Refused, k_UnknownSet_Refused := yk_UnknownSet_Refused, k_InvalidCommand_Refused := yk_InvalidCommand_Refused, k_InvalidSizes_Refused := yk_InvalidSizes_Refused, k_InvalidState_Refused := yk_InvalidState_Refused, k_InvalidTable_Refused := yk_InvalidTable_Refused, k_InvalidEvent_Refused := yk_InvalidEvent_Refused, k_InvalidRow_Refused := yk_InvalidRow_Refused, k_InvalidLine_Refused := yk_InvalidLine_Refused, k_NothingLeft_Refused := yk_NothingLeft_Refused, k_KnownName_Refused := yk_KnownName_Refused, k_UnknownName_Refused := yk_UnknownName_Refused, k_Closed_Refused := yk_Closed_Refused, k_Opened_Refused := yk_Opened_Refused, k_InvalidNumber_Refused := yk_InvalidNumber_Refused, k_InvalidRule_Refused := yk_InvalidRule_Refused, k_InvalidDisk_Refused := yk_InvalidDisk_Refused, k_InvalidName_Refused := yk_InvalidName_Refused, k_InvalidRuns_Refused := yk_InvalidRuns_Refused, k_InvalidBlock_Refused := yk_InvalidBlock_Refused, k_InvalidText_Refused := yk_InvalidText_Refused, k_InvalidBook_Refused := yk_InvalidBook_Refused, k_TooMany_NotDone := yk_TooMany_NotDone, k_Refused_NotDone := yk_Refused_NotDone, k_NotDone_NotDone := yk_NotDone_NotDone, k_NotClosed_NotDone := yk_NotClosed_NotDone, k_Refusable_NotDone := yk_Refusable_NotDone, k_InvalidChoice_NotDone := yk_InvalidChoice_NotDone, k_UnknownSet_NotDone := yk_UnknownSet_NotDone, k_InvalidCommand_NotDone := yk_InvalidCommand_NotDone, k_InvalidSizes_NotDone := yk_InvalidSizes_NotDone, k_InvalidState_NotDone := yk_InvalidState_NotDone, k_InvalidTable_NotDone := yk_InvalidTable_NotDone, k_InvalidEvent_NotDone := yk_InvalidEvent_NotDone, k_InvalidRow_NotDone := yk_InvalidRow_NotDone, k_InvalidLine_NotDone := yk_InvalidLine_NotDone, k_NothingLeft_NotDone := yk_NothingLeft_NotDone, k_KnownName_NotDone := yk_KnownName_NotDone, k_UnknownName_NotDone := yk_UnknownName_NotDone, k_Closed_NotDone := yk_Closed_NotDone, k_Opened_NotDone := yk_Opened_NotDone, k_InvalidNumber_NotDone := yk_InvalidNumber_NotDone, k_InvalidRule_NotDone := yk_InvalidRule_NotDone, k_InvalidDisk_NotDone := yk_InvalidDisk_NotDone, k_InvalidName_NotDone := yk_InvalidName_NotDone, k_InvalidRuns_NotDone := yk_InvalidRuns_NotDone, k_InvalidBlock_NotDone := yk_InvalidBlock_NotDone, k_InvalidText_NotDone := yk_InvalidText_NotDone, k_InvalidBook_NotDone := yk_InvalidBook_NotDone, k_TooMany_Refusable := yk_TooMany_Refusable, k_Refused_Refusable := yk_Refused_Refusable, k_NotDone_Refusable := yk_NotDone_Refusable, k_NotClosed_Refusable := yk_NotClosed_Refusable, k_Refusable_Refusable := yk_Refusable_Refusable, k_InvalidChoice_Refusable := yk_InvalidChoice_Refusable, k_UnknownSet_Refusable := yk_UnknownSet_Refusable, k_InvalidCommand_Refusable := yk_InvalidCommand_Refusable, k_InvalidSizes_Refusable := yk_InvalidSizes_Refusable, k_InvalidState_Refusable := yk_InvalidState_Refusable, k_InvalidTable_Refusable := yk_InvalidTable_Refusable, k_InvalidEvent_Refusable := yk_InvalidEvent_Refusable, k_InvalidRow_Refusable := yk_InvalidRow_Refusable, k_InvalidLine_Refusable := yk_InvalidLine_Refusable, k_NothingLeft_Refusable := yk_NothingLeft_Refusable, k_KnownName_Refusable := yk_KnownName_Refusable, k_UnknownName_Refusable := yk_UnknownName_Refusable, k_Closed_Refusable := yk_Closed_Refusable, k_Opened_Refusable := yk_Opened_Refusable, k_InvalidNumber_Refusable := yk_InvalidNumber_Refusable, k_InvalidRule_Refusable := yk_InvalidRule_Refusable, k_InvalidDisk_Refusable := yk_InvalidDisk_Refusable, k_InvalidName_Refusable := yk_InvalidName_Refusable, k_InvalidRuns_Refusable := yk_InvalidRuns_Refusable, k_InvalidBlock_Refusable := yk_InvalidBlock_Refusable, k_InvalidText_Refusable := yk_InvalidText_Refusable, k_InvalidBook_Refusable := yk_InvalidBook_Refusable, k_TooMany_InvalidChoice := yk_TooMany_InvalidChoice, k_Refused_InvalidChoice := yk_Refused_InvalidChoice, k_NotDone_InvalidChoice := yk_NotDone_InvalidChoice, k_NotClosed_InvalidChoice := yk_NotClosed_InvalidChoice, k_Refusable_InvalidChoice := yk_Refusable_InvalidChoice, k_InvalidChoice_InvalidChoice := yk_InvalidChoice_InvalidChoice, k_UnknownSet_InvalidChoice := yk_UnknownSet_InvalidChoice, k_InvalidCommand_InvalidChoice := yk_InvalidCommand_InvalidChoice, k_InvalidSizes_InvalidChoice := yk_InvalidSizes_InvalidChoice, k_InvalidState_InvalidChoice := yk_InvalidState_InvalidChoice, k_InvalidTable_InvalidChoice := yk_InvalidTable_InvalidChoice, k_InvalidEvent_InvalidChoice := yk_InvalidEvent_InvalidChoice, k_InvalidRow_InvalidChoice := yk_InvalidRow_InvalidChoice, k_InvalidLine_InvalidChoice := yk_InvalidLine_InvalidChoice, k_NothingLeft_InvalidChoice := yk_NothingLeft_InvalidChoice, k_KnownName_InvalidChoice := yk_KnownName_InvalidChoice, k_UnknownName_InvalidChoice := yk_UnknownName_InvalidChoice, k_Closed_InvalidChoice := yk_Closed_InvalidChoice, k_Opened_InvalidChoice := yk_Opened_InvalidChoice, k_InvalidNumber_InvalidChoice := yk_InvalidNumber_InvalidChoice, k_InvalidRule_InvalidChoice := yk_InvalidRule_InvalidChoice, k_InvalidDisk_InvalidChoice := yk_InvalidDisk_InvalidChoice, k_InvalidName_InvalidChoice := yk_InvalidName_InvalidChoice, k_InvalidRuns_InvalidChoice := yk_InvalidRuns_InvalidChoice, k_InvalidBlock_InvalidChoice := yk_InvalidBlock_InvalidChoice, k_InvalidText_InvalidChoice := yk_InvalidText_InvalidChoice, k_InvalidBook_InvalidChoice := yk_InvalidBook_InvalidChoice, k_TooMany_UnknownSet := yk_TooMany_UnknownSet, k_Refused_UnknownSet := yk_Refused_UnknownSet, k_NotDone_UnknownSet := yk_NotDone_UnknownSet, k_NotClosed_UnknownSet := yk_NotClosed_UnknownSet, k_Refusable_UnknownSet := yk_Refusable_UnknownSet, k_InvalidChoice_UnknownSet := yk_InvalidChoice_UnknownSet, k_UnknownSet_UnknownSet := yk_UnknownSet_UnknownSet, k_InvalidCommand_UnknownSet := yk_InvalidCommand_UnknownSet, k_InvalidSizes_UnknownSet := yk_InvalidSizes_UnknownSet, k_InvalidState_UnknownSet := yk_InvalidState_UnknownSet, k_InvalidTable_UnknownSet := yk_InvalidTable_UnknownSet, k_InvalidEvent_UnknownSet := yk_InvalidEvent_UnknownSet, k_InvalidRow_UnknownSet := yk_InvalidRow_UnknownSet, k_InvalidLine_UnknownSet := yk_InvalidLine_UnknownSet, k_NothingLeft_UnknownSet := yk_NothingLeft_UnknownSet, k_KnownName_UnknownSet := yk_KnownName_UnknownSet, k_UnknownName_UnknownSet := yk_UnknownName_UnknownSet, k_Closed_UnknownSet := yk_Closed_UnknownSet, k_Opened_UnknownSet := yk_Opened_UnknownSet, k_InvalidNumber_UnknownSet := yk_InvalidNumber_UnknownSet, k_InvalidRule_UnknownSet := yk_InvalidRule_UnknownSet, k_InvalidDisk_UnknownSet := yk_InvalidDisk_UnknownSet, k_InvalidName_UnknownSet := yk_InvalidName_UnknownSet, k_InvalidRuns_UnknownSet := yk_InvalidRuns_UnknownSet, k_InvalidBlock_UnknownSet := yk_InvalidBlock_UnknownSet, k_InvalidText_UnknownSet := yk_InvalidText_UnknownSet, k_InvalidBook_UnknownSet := yk_InvalidBook_UnknownSet, k_TooMany_InvalidState := yk_TooMany_InvalidState, k_Refused_InvalidState := yk_Refused_InvalidState, k_NotDone_InvalidState := yk_NotDone_InvalidState, k_NotClosed_InvalidState := yk_NotClosed_InvalidState, k_Refusable_InvalidState := yk_Refusable_InvalidState, k_InvalidChoice_InvalidState := yk_InvalidChoice_InvalidState, k_UnknownSet_InvalidState := yk_UnknownSet_InvalidState, k_InvalidCommand_InvalidState := yk_InvalidCommand_InvalidState, k_InvalidSizes_InvalidState := yk_InvalidSizes_InvalidState, k_InvalidState_InvalidState := yk_InvalidState_InvalidState, k_InvalidTable_InvalidState := yk_InvalidTable_InvalidState, k_InvalidEvent_InvalidState := yk_InvalidEvent_InvalidState, k_InvalidRow_InvalidState := yk_InvalidRow_InvalidState, k_InvalidLine_InvalidState := yk_InvalidLine_InvalidState, k_NothingLeft_InvalidState := yk_NothingLeft_InvalidState, k_KnownName_InvalidState := yk_KnownName_InvalidState, k_UnknownName_InvalidState := yk_UnknownName_InvalidState, k_Closed_InvalidState := yk_Closed_InvalidState, k_Opened_InvalidState := yk_Opened_InvalidState, k_InvalidNumber_InvalidState := yk_InvalidNumber_InvalidState, k_InvalidRule_InvalidState := yk_InvalidRule_InvalidState, k_InvalidDisk_InvalidState := yk_InvalidDisk_InvalidState, k_InvalidName_InvalidState := yk_InvalidName_InvalidState, k_InvalidRuns_InvalidState := yk_InvalidRuns_InvalidState, k_InvalidBlock_InvalidState := yk_InvalidBlock_InvalidState, k_InvalidText_InvalidState := yk_InvalidText_InvalidState, k_InvalidBook_InvalidState := yk_InvalidBook_InvalidState, k_TooMany_InvalidTable := yk_TooMany_InvalidTable, k_Refused_InvalidTable := yk_Refused_InvalidTable, k_NotDone_InvalidTable := yk_NotDone_InvalidTable, k_NotClosed_InvalidTable := yk_NotClosed_InvalidTable, k_Refusable_InvalidTable := yk_Refusable_InvalidTable, k_InvalidChoice_InvalidTable := yk_InvalidChoice_InvalidTable, k_UnknownSet_InvalidTable := yk_UnknownSet_InvalidTable, k_InvalidCommand_InvalidTable := yk_InvalidCommand_InvalidTable, k_InvalidSizes_InvalidTable := yk_InvalidSizes_InvalidTable, k_InvalidState_InvalidTable := yk_InvalidState_InvalidTable, k_InvalidTable_InvalidTable := yk_InvalidTable_InvalidTable, k_InvalidEvent_InvalidTable := yk_InvalidEvent_InvalidTable, k_InvalidRow_InvalidTable := yk_InvalidRow_InvalidTable, k_InvalidLine_InvalidTable := yk_InvalidLine_InvalidTable, k_NothingLeft_InvalidTable := yk_NothingLeft_InvalidTable, k_KnownName_InvalidTable := yk_KnownName_InvalidTable, k_UnknownName_InvalidTable := yk_UnknownName_InvalidTable, k_Closed_InvalidTable := yk_Closed_InvalidTable, k_Opened_InvalidTable := yk_Opened_InvalidTable, k_InvalidNumber_InvalidTable := yk_InvalidNumber_InvalidTable, k_InvalidRule_InvalidTable := yk_InvalidRule_InvalidTable, k_InvalidDisk_InvalidTable := yk_InvalidDisk_InvalidTable, k_InvalidName_InvalidTable := yk_InvalidName_InvalidTable, k_InvalidRuns_InvalidTable := yk_InvalidRuns_InvalidTable, k_InvalidBlock_InvalidTable := yk_InvalidBlock_InvalidTable, k_InvalidText_InvalidTable := yk_InvalidText_InvalidTable, k_InvalidBook_InvalidTable := yk_InvalidBook_InvalidTable, k_TooMany_NotClosed := yk_TooMany_NotClosed, k_Refused_NotClosed := yk_Refused_NotClosed, k_NotDone_NotClosed := yk_NotDone_NotClosed, k_NotClosed_NotClosed := yk_NotClosed_NotClosed, k_Refusable_NotClosed := yk_Refusable_NotClosed, k_InvalidChoice_NotClosed := yk_InvalidChoice_NotClosed, k_UnknownSet_NotClosed := yk_UnknownSet_NotClosed, k_InvalidCommand_NotClosed := yk_InvalidCommand_NotClosed, k_InvalidSizes_NotClosed := yk_InvalidSizes_NotClosed, k_InvalidState_NotClosed := yk_InvalidState_NotClosed, k_InvalidTable_NotClosed := yk_InvalidTable_NotClosed, k_InvalidEvent_NotClosed := yk_InvalidEvent_NotClosed, k_InvalidRow_NotClosed := yk_InvalidRow_NotClosed, k_InvalidLine_NotClosed := yk_InvalidLine_NotClosed, k_NothingLeft_NotClosed := yk_NothingLeft_NotClosed, k_KnownName_NotClosed := yk_KnownName_NotClosed, k_UnknownName_NotClosed := yk_UnknownName_NotClosed, k_Closed_NotClosed := yk_Closed_NotClosed, k_Opened_NotClosed := yk_Opened_NotClosed, k_InvalidNumber_NotClosed := yk_InvalidNumber_NotClosed, k_InvalidRule_NotClosed := yk_InvalidRule_NotClosed, k_InvalidDisk_NotClosed := yk_InvalidDisk_NotClosed, k_InvalidName_NotClosed := yk_InvalidName_NotClosed, k_InvalidRuns_NotClosed := yk_InvalidRuns_NotClosed, k_InvalidBlock_NotClosed := yk_InvalidBlock_NotClosed, k_InvalidText_NotClosed := yk_InvalidText_NotClosed, k_InvalidBook_NotClosed := yk_InvalidBook_NotClosed, k_TooMany_NothingLeft := yk_TooMany_NothingLeft, k_Refused_NothingLeft := yk_Refused_NothingLeft, k_NotDone_NothingLeft := yk_NotDone_NothingLeft, k_NotClosed_NothingLeft := yk_NotClosed_NothingLeft, k_Refusable_NothingLeft := yk_Refusable_NothingLeft, k_InvalidChoice_NothingLeft := yk_InvalidChoice_NothingLeft, k_UnknownSet_NothingLeft := yk_UnknownSet_NothingLeft, k_InvalidCommand_NothingLeft := yk_InvalidCommand_NothingLeft, k_InvalidSizes_NothingLeft := yk_InvalidSizes_NothingLeft, k_InvalidState_NothingLeft := yk_InvalidState_NothingLeft, k_InvalidTable_NothingLeft := yk_InvalidTable_NothingLeft, k_InvalidEvent_NothingLeft := yk_InvalidEvent_NothingLeft, k_InvalidRow_NothingLeft := yk_InvalidRow_NothingLeft, k_InvalidLine_NothingLeft := yk_InvalidLine_NothingLeft, k_NothingLeft_NothingLeft := yk_NothingLeft_NothingLeft, k_KnownName_NothingLeft := yk_KnownName_NothingLeft, k_UnknownName_NothingLeft := yk_UnknownName_NothingLeft, k_Closed_NothingLeft := yk_Closed_NothingLeft, k_Opened_NothingLeft := yk_Opened_NothingLeft, k_InvalidNumber_NothingLeft := yk_InvalidNumber_NothingLeft, k_InvalidRule_NothingLeft := yk_InvalidRule_NothingLeft, k_InvalidDisk_NothingLeft := yk_InvalidDisk_NothingLeft, k_InvalidName_NothingLeft := yk_InvalidName_NothingLeft, k_InvalidRuns_NothingLeft := yk_InvalidRuns_NothingLeft, k_InvalidBlock_NothingLeft := yk_InvalidBlock_NothingLeft, k_InvalidText_NothingLeft := yk_InvalidText_NothingLeft, k_InvalidBook_NothingLeft := yk_InvalidBook_NothingLeft, k_TooMany_InvalidCommand := yk_TooMany_InvalidCommand, k_Refused_InvalidCommand := yk_Refused_InvalidCommand, k_NotDone_InvalidCommand := yk_NotDone_InvalidCommand, k_NotClosed_InvalidCommand := yk_NotClosed_InvalidCommand, k_Refusable_InvalidCommand := yk_Refusable_InvalidCommand, k_InvalidChoice_InvalidCommand := yk_InvalidChoice_InvalidCommand, k_UnknownSet_InvalidCommand := yk_UnknownSet_InvalidCommand, k_InvalidCommand_InvalidCommand := yk_InvalidCommand_InvalidCommand, k_InvalidSizes_InvalidCommand := yk_InvalidSizes_InvalidCommand, k_InvalidState_InvalidCommand := yk_InvalidState_InvalidCommand, k_InvalidTable_InvalidCommand := yk_InvalidTable_InvalidCommand, k_InvalidEvent_InvalidCommand := yk_InvalidEvent_InvalidCommand, k_InvalidRow_InvalidCommand := yk_InvalidRow_InvalidCommand, k_InvalidLine_InvalidCommand := yk_InvalidLine_InvalidCommand, k_NothingLeft_InvalidCommand := yk_NothingLeft_InvalidCommand, k_KnownName_InvalidCommand := yk_KnownName_InvalidCommand, k_UnknownName_InvalidCommand := yk_UnknownName_InvalidCommand, k_Closed_InvalidCommand := yk_Closed_InvalidCommand, k_Opened_InvalidCommand := yk_Opened_InvalidCommand, k_InvalidNumber_InvalidCommand := yk_InvalidNumber_InvalidCommand, k_InvalidRule_InvalidCommand := yk_InvalidRule_InvalidCommand, k_InvalidDisk_InvalidCommand := yk_InvalidDisk_InvalidCommand, k_InvalidName_InvalidCommand := yk_InvalidName_InvalidCommand, k_InvalidRuns_InvalidCommand := yk_InvalidRuns_InvalidCommand, k_InvalidBlock_InvalidCommand := yk_InvalidBlock_InvalidCommand, k_InvalidText_InvalidCommand := yk_InvalidText_InvalidCommand, k_InvalidBook_InvalidCommand := yk_InvalidBook_InvalidCommand, k_TooMany_InvalidSizes := yk_TooMany_InvalidSizes, k_Refused_InvalidSizes := yk_Refused_InvalidSizes, k_NotDone_InvalidSizes := yk_NotDone_InvalidSizes, k_NotClosed_InvalidSizes := yk_NotClosed_InvalidSizes, k_Refusable_InvalidSizes := yk_Refusable_InvalidSizes, k_InvalidChoice_InvalidSizes := yk_InvalidChoice_InvalidSizes, k_UnknownSet_InvalidSizes := yk_UnknownSet_InvalidSizes, k_InvalidCommand_InvalidSizes := yk_InvalidCommand_InvalidSizes, k_InvalidSizes_InvalidSizes := yk_InvalidSizes_InvalidSizes, k_InvalidState_InvalidSizes := yk_InvalidState_InvalidSizes, k_InvalidTable_InvalidSizes := yk_InvalidTable_InvalidSizes, k_InvalidEvent_InvalidSizes := yk_InvalidEvent_InvalidSizes, k_InvalidRow_InvalidSizes := yk_InvalidRow_InvalidSizes, k_InvalidLine_InvalidSizes := yk_InvalidLine_InvalidSizes, k_NothingLeft_InvalidSizes := yk_NothingLeft_InvalidSizes, k_KnownName_InvalidSizes := yk_KnownName_InvalidSizes, k_UnknownName_InvalidSizes := yk_UnknownName_InvalidSizes, k_Closed_InvalidSizes := yk_Closed_InvalidSizes, k_Opened_InvalidSizes := yk_Opened_InvalidSizes, k_InvalidNumber_InvalidSizes := yk_InvalidNumber_InvalidSizes, k_InvalidRule_InvalidSizes := yk_InvalidRule_InvalidSizes, k_InvalidDisk_InvalidSizes := yk_InvalidDisk_InvalidSizes, k_InvalidName_InvalidSizes := yk_InvalidName_InvalidSizes, k_InvalidRuns_InvalidSizes := yk_InvalidRuns_InvalidSizes, k_InvalidBlock_InvalidSizes := yk_InvalidBlock_InvalidSizes, k_InvalidText_InvalidSizes := yk_InvalidText_InvalidSizes, k_InvalidBook_InvalidSizes := yk_InvalidBook_InvalidSizes, k_TooMany_InvalidEvent := yk_TooMany_InvalidEvent, k_Refused_InvalidEvent := yk_Refused_InvalidEvent, k_NotDone_InvalidEvent := yk_NotDone_InvalidEvent, k_NotClosed_InvalidEvent := yk_NotClosed_InvalidEvent, k_Refusable_InvalidEvent := yk_Refusable_InvalidEvent, k_InvalidChoice_InvalidEvent := yk_InvalidChoice_InvalidEvent, k_UnknownSet_InvalidEvent := yk_UnknownSet_InvalidEvent, k_InvalidCommand_InvalidEvent := yk_InvalidCommand_InvalidEvent, k_InvalidSizes_InvalidEvent := yk_InvalidSizes_InvalidEvent, k_InvalidState_InvalidEvent := yk_InvalidState_InvalidEvent, k_InvalidTable_InvalidEvent := yk_InvalidTable_InvalidEvent, k_InvalidEvent_InvalidEvent := yk_InvalidEvent_InvalidEvent, k_InvalidRow_InvalidEvent := yk_InvalidRow_InvalidEvent, k_InvalidLine_InvalidEvent := yk_InvalidLine_InvalidEvent, k_NothingLeft_InvalidEvent := yk_NothingLeft_InvalidEvent, k_KnownName_InvalidEvent := yk_KnownName_InvalidEvent, k_UnknownName_InvalidEvent := yk_UnknownName_InvalidEvent, k_Closed_InvalidEvent := yk_Closed_InvalidEvent, k_Opened_InvalidEvent := yk_Opened_InvalidEvent, k_InvalidNumber_InvalidEvent := yk_InvalidNumber_InvalidEvent, k_InvalidRule_InvalidEvent := yk_InvalidRule_InvalidEvent, k_InvalidDisk_InvalidEvent := yk_InvalidDisk_InvalidEvent, k_InvalidName_InvalidEvent := yk_InvalidName_InvalidEvent, k_InvalidRuns_InvalidEvent := yk_InvalidRuns_InvalidEvent, k_InvalidBlock_InvalidEvent := yk_InvalidBlock_InvalidEvent, k_InvalidText_InvalidEvent := yk_InvalidText_InvalidEvent, k_InvalidBook_InvalidEvent := yk_InvalidBook_InvalidEvent, k_TooMany_InvalidRow := yk_TooMany_InvalidRow, k_Refused_InvalidRow := yk_Refused_InvalidRow, k_NotDone_InvalidRow := yk_NotDone_InvalidRow, k_NotClosed_InvalidRow := yk_NotClosed_InvalidRow, k_Refusable_InvalidRow := yk_Refusable_InvalidRow, k_InvalidChoice_InvalidRow := yk_InvalidChoice_InvalidRow, k_UnknownSet_InvalidRow := yk_UnknownSet_InvalidRow, k_InvalidCommand_InvalidRow := yk_InvalidCommand_InvalidRow, k_InvalidSizes_InvalidRow := yk_InvalidSizes_InvalidRow, k_InvalidState_InvalidRow := yk_InvalidState_InvalidRow, k_InvalidTable_InvalidRow := yk_InvalidTable_InvalidRow, k_InvalidEvent_InvalidRow := yk_InvalidEvent_InvalidRow, k_InvalidRow_InvalidRow := yk_InvalidRow_InvalidRow, k_InvalidLine_InvalidRow := yk_InvalidLine_InvalidRow, k_NothingLeft_InvalidRow := yk_NothingLeft_InvalidRow, k_KnownName_InvalidRow := yk_KnownName_InvalidRow, k_UnknownName_InvalidRow := yk_UnknownName_InvalidRow, k_Closed_InvalidRow := yk_Closed_InvalidRow, k_Opened_InvalidRow := yk_Opened_InvalidRow, k_InvalidNumber_InvalidRow := yk_InvalidNumber_InvalidRow, k_InvalidRule_InvalidRow := yk_InvalidRule_InvalidRow, k_InvalidDisk_InvalidRow := yk_InvalidDisk_InvalidRow, k_InvalidName_InvalidRow := yk_InvalidName_InvalidRow, k_InvalidRuns_InvalidRow := yk_InvalidRuns_InvalidRow, k_InvalidBlock_InvalidRow := yk_InvalidBlock_InvalidRow, k_InvalidText_InvalidRow := yk_InvalidText_InvalidRow, k_InvalidBook_InvalidRow := yk_InvalidBook_InvalidRow, k_TooMany_InvalidLine := yk_TooMany_InvalidLine, k_Refused_InvalidLine := yk_Refused_InvalidLine, k_NotDone_InvalidLine := yk_NotDone_InvalidLine, k_NotClosed_InvalidLine := yk_NotClosed_InvalidLine, k_Refusable_InvalidLine := yk_Refusable_InvalidLine, k_InvalidChoice_InvalidLine := yk_InvalidChoice_InvalidLine, k_UnknownSet_InvalidLine := yk_UnknownSet_InvalidLine, k_InvalidCommand_InvalidLine := yk_InvalidCommand_InvalidLine, k_InvalidSizes_InvalidLine := yk_InvalidSizes_InvalidLine, k_InvalidState_InvalidLine := yk_InvalidState_InvalidLine, k_InvalidTable_InvalidLine := yk_InvalidTable_InvalidLine, k_InvalidEvent_InvalidLine := yk_InvalidEvent_InvalidLine, k_InvalidRow_InvalidLine := yk_InvalidRow_InvalidLine, k_InvalidLine_InvalidLine := yk_InvalidLine_InvalidLine, k_NothingLeft_InvalidLine := yk_NothingLeft_InvalidLine, k_KnownName_InvalidLine := yk_KnownName_InvalidLine, k_UnknownName_InvalidLine := yk_UnknownName_InvalidLine, k_Closed_InvalidLine := yk_Closed_InvalidLine, k_Opened_InvalidLine := yk_Opened_InvalidLine, k_InvalidNumber_InvalidLine := yk_InvalidNumber_InvalidLine, k_InvalidRule_InvalidLine := yk_InvalidRule_InvalidLine, k_InvalidDisk_InvalidLine := yk_InvalidDisk_InvalidLine, k_InvalidName_InvalidLine := yk_InvalidName_InvalidLine, k_InvalidRuns_InvalidLine := yk_InvalidRuns_InvalidLine, k_InvalidBlock_InvalidLine := yk_InvalidBlock_InvalidLine, k_InvalidText_InvalidLine := yk_InvalidText_InvalidLine, k_InvalidBook_InvalidLine := yk_InvalidBook_InvalidLine, k_TooMany_UnknownName := yk_TooMany_UnknownName, k_Refused_UnknownName := yk_Refused_UnknownName, k_NotDone_UnknownName := yk_NotDone_UnknownName, k_NotClosed_UnknownName := yk_NotClosed_UnknownName, k_Refusable_UnknownName := yk_Refusable_UnknownName, k_InvalidChoice_UnknownName := yk_InvalidChoice_UnknownName, k_UnknownSet_UnknownName := yk_UnknownSet_UnknownName, k_InvalidCommand_UnknownName := yk_InvalidCommand_UnknownName, k_InvalidSizes_UnknownName := yk_InvalidSizes_UnknownName, k_InvalidState_UnknownName := yk_InvalidState_UnknownName, k_InvalidTable_UnknownName := yk_InvalidTable_UnknownName, k_InvalidEvent_UnknownName := yk_InvalidEvent_UnknownName, k_InvalidRow_UnknownName := yk_InvalidRow_UnknownName, k_InvalidLine_UnknownName := yk_InvalidLine_UnknownName, k_NothingLeft_UnknownName := yk_NothingLeft_UnknownName, k_KnownName_UnknownName := yk_KnownName_UnknownName, k_UnknownName_UnknownName := yk_UnknownName_UnknownName, k_Closed_UnknownName := yk_Closed_UnknownName, k_Opened_UnknownName := yk_Opened_UnknownName, k_InvalidNumber_UnknownName := yk_InvalidNumber_UnknownName, k_InvalidRule_UnknownName := yk_InvalidRule_UnknownName, k_InvalidDisk_UnknownName := yk_InvalidDisk_UnknownName, k_InvalidName_UnknownName := yk_InvalidName_UnknownName, k_InvalidRuns_UnknownName := yk_InvalidRuns_UnknownName, k_InvalidBlock_UnknownName := yk_InvalidBlock_UnknownName, k_InvalidText_UnknownName := yk_InvalidText_UnknownName, k_InvalidBook_UnknownName := yk_InvalidBook_UnknownName, k_TooMany_Closed := yk_TooMany_Closed, k_Refused_Closed := yk_Refused_Closed, k_NotDone_Closed := yk_NotDone_Closed, k_NotClosed_Closed := yk_NotClosed_Closed, k_Refusable_Closed := yk_Refusable_Closed, k_InvalidChoice_Closed := yk_InvalidChoice_Closed, k_UnknownSet_Closed := yk_UnknownSet_Closed, k_InvalidCommand_Closed := yk_InvalidCommand_Closed, k_InvalidSizes_Closed := yk_InvalidSizes_Closed, k_InvalidState_Closed := yk_InvalidState_Closed, k_InvalidTable_Closed := yk_InvalidTable_Closed, k_InvalidEvent_Closed := yk_InvalidEvent_Closed, k_InvalidRow_Closed := yk_InvalidRow_Closed, k_InvalidLine_Closed := yk_InvalidLine_Closed, k_NothingLeft_Closed := yk_NothingLeft_Closed, k_KnownName_Closed := yk_KnownName_Closed, k_UnknownName_Closed := yk_UnknownName_Closed, k_Closed_Closed := yk_Closed_Closed, k_Opened_Closed := yk_Opened_Closed, k_InvalidNumber_Closed := yk_InvalidNumber_Closed, k_InvalidRule_Closed := yk_InvalidRule_Closed, k_InvalidDisk_Closed := yk_InvalidDisk_Closed, k_InvalidName_Closed := yk_InvalidName_Closed, k_InvalidRuns_Closed := yk_InvalidRuns_Closed, k_InvalidBlock_Closed := yk_InvalidBlock_Closed, k_InvalidText_Closed := yk_InvalidText_Closed, k_InvalidBook_Closed := yk_InvalidBook_Closed, k_TooMany_Opened := yk_TooMany_Opened, k_Refused_Opened := yk_Refused_Opened, k_NotDone_Opened := yk_NotDone_Opened, k_NotClosed_Opened := yk_NotClosed_Opened, k_Refusable_Opened := yk_Refusable_Opened, k_InvalidChoice_Opened := yk_InvalidChoice_Opened, k_UnknownSet_Opened := yk_UnknownSet_Opened, k_InvalidCommand_Opened := yk_InvalidCommand_Opened, k_InvalidSizes_Opened := yk_InvalidSizes_Opened, k_InvalidState_Opened := yk_InvalidState_Opened, k_InvalidTable_Opened := yk_InvalidTable_Opened, k_InvalidEvent_Opened := yk_InvalidEvent_Opened, k_InvalidRow_Opened := yk_InvalidRow_Opened, k_InvalidLine_Opened := yk_InvalidLine_Opened, k_NothingLeft_Opened := yk_NothingLeft_Opened, k_KnownName_Opened := yk_KnownName_Opened, k_UnknownName_Opened := yk_UnknownName_Opened, k_Closed_Opened := yk_Closed_Opened, k_Opened_Opened := yk_Opened_Opened, k_InvalidNumber_Opened := yk_InvalidNumber_Opened, k_InvalidRule_Opened := yk_InvalidRule_Opened, k_InvalidDisk_Opened := yk_InvalidDisk_Opened, k_InvalidName_Opened := yk_InvalidName_Opened, k_InvalidRuns_Opened := yk_InvalidRuns_Opened, k_InvalidBlock_Opened := yk_InvalidBlock_Opened, k_InvalidText_Opened := yk_InvalidText_Opened, k_InvalidBook_Opened := yk_InvalidBook_Opened, k_TooMany_InvalidDisk := yk_TooMany_InvalidDisk, k_Refused_InvalidDisk := yk_Refused_InvalidDisk, k_NotDone_InvalidDisk := yk_NotDone_InvalidDisk, k_NotClosed_InvalidDisk := yk_NotClosed_InvalidDisk, k_Refusable_InvalidDisk := yk_Refusable_InvalidDisk, k_InvalidChoice_InvalidDisk := yk_InvalidChoice_InvalidDisk, k_UnknownSet_InvalidDisk := yk_UnknownSet_InvalidDisk, k_InvalidCommand_InvalidDisk := yk_InvalidCommand_InvalidDisk, k_InvalidSizes_InvalidDisk := yk_InvalidSizes_InvalidDisk, k_InvalidState_InvalidDisk := yk_InvalidState_InvalidDisk, k_InvalidTable_InvalidDisk := yk_InvalidTable_InvalidDisk, k_InvalidEvent_InvalidDisk := yk_InvalidEvent_InvalidDisk, k_InvalidRow_InvalidDisk := yk_InvalidRow_InvalidDisk, k_InvalidLine_InvalidDisk := yk_InvalidLine_InvalidDisk, k_NothingLeft_InvalidDisk := yk_NothingLeft_InvalidDisk, k_KnownName_InvalidDisk := yk_KnownName_InvalidDisk, k_UnknownName_InvalidDisk := yk_UnknownName_InvalidDisk, k_Closed_InvalidDisk := yk_Closed_InvalidDisk, k_Opened_InvalidDisk := yk_Opened_InvalidDisk, k_InvalidNumber_InvalidDisk := yk_InvalidNumber_InvalidDisk, k_InvalidRule_InvalidDisk := yk_InvalidRule_InvalidDisk, k_InvalidDisk_InvalidDisk := yk_InvalidDisk_InvalidDisk, k_InvalidName_InvalidDisk := yk_InvalidName_InvalidDisk, k_InvalidRuns_InvalidDisk := yk_InvalidRuns_InvalidDisk, k_InvalidBlock_InvalidDisk := yk_InvalidBlock_InvalidDisk, k_InvalidText_InvalidDisk := yk_InvalidText_InvalidDisk, k_InvalidBook_InvalidDisk := yk_InvalidBook_InvalidDisk, k_TooMany_InvalidName := yk_TooMany_InvalidName, k_Refused_InvalidName := yk_Refused_InvalidName, k_NotDone_InvalidName := yk_NotDone_InvalidName, k_NotClosed_InvalidName := yk_NotClosed_InvalidName, k_Refusable_InvalidName := yk_Refusable_InvalidName, k_InvalidChoice_InvalidName := yk_InvalidChoice_InvalidName, k_UnknownSet_InvalidName := yk_UnknownSet_InvalidName, k_InvalidCommand_InvalidName := yk_InvalidCommand_InvalidName, k_InvalidSizes_InvalidName := yk_InvalidSizes_InvalidName, k_InvalidState_InvalidName := yk_InvalidState_InvalidName, k_InvalidTable_InvalidName := yk_InvalidTable_InvalidName, k_InvalidEvent_InvalidName := yk_InvalidEvent_InvalidName, k_InvalidRow_InvalidName := yk_InvalidRow_InvalidName, k_InvalidLine_InvalidName := yk_InvalidLine_InvalidName, k_NothingLeft_InvalidName := yk_NothingLeft_InvalidName, k_KnownName_InvalidName := yk_KnownName_InvalidName, k_UnknownName_InvalidName := yk_UnknownName_InvalidName, k_Closed_InvalidName := yk_Closed_InvalidName, k_Opened_InvalidName := yk_Opened_InvalidName, k_InvalidNumber_InvalidName := yk_InvalidNumber_InvalidName, k_InvalidRule_InvalidName := yk_InvalidRule_InvalidName, k_InvalidDisk_InvalidName := yk_InvalidDisk_InvalidName, k_InvalidName_InvalidName := yk_InvalidName_InvalidName, k_InvalidRuns_InvalidName := yk_InvalidRuns_InvalidName, k_InvalidBlock_InvalidName := yk_InvalidBlock_InvalidName, k_InvalidText_InvalidName := yk_InvalidText_InvalidName, k_InvalidBook_InvalidName := yk_InvalidBook_InvalidName, k_TooMany_KnownName := yk_TooMany_KnownName, k_Refused_KnownName := yk_Refused_KnownName, k_NotDone_KnownName := yk_NotDone_KnownName, k_NotClosed_KnownName := yk_NotClosed_KnownName, k_Refusable_KnownName := yk_Refusable_KnownName, k_InvalidChoice_KnownName := yk_InvalidChoice_KnownName, k_UnknownSet_KnownName := yk_UnknownSet_KnownName, k_InvalidCommand_KnownName := yk_InvalidCommand_KnownName, k_InvalidSizes_KnownName := yk_InvalidSizes_KnownName, k_InvalidState_KnownName := yk_InvalidState_KnownName, k_InvalidTable_KnownName := yk_InvalidTable_KnownName, k_InvalidEvent_KnownName := yk_InvalidEvent_KnownName, k_InvalidRow_KnownName := yk_InvalidRow_KnownName, k_InvalidLine_KnownName := yk_InvalidLine_KnownName, k_NothingLeft_KnownName := yk_NothingLeft_KnownName, k_KnownName_KnownName := yk_KnownName_KnownName, k_UnknownName_KnownName := yk_UnknownName_KnownName, k_Closed_KnownName := yk_Closed_KnownName, k_Opened_KnownName := yk_Opened_KnownName, k_InvalidNumber_KnownName := yk_InvalidNumber_KnownName, k_InvalidRule_KnownName := yk_InvalidRule_KnownName, k_InvalidDisk_KnownName := yk_InvalidDisk_KnownName, k_InvalidName_KnownName := yk_InvalidName_KnownName, k_InvalidRuns_KnownName := yk_InvalidRuns_KnownName, k_InvalidBlock_KnownName := yk_InvalidBlock_KnownName, k_InvalidText_KnownName := yk_InvalidText_KnownName, k_InvalidBook_KnownName := yk_InvalidBook_KnownName, k_TooMany_InvalidBook := yk_TooMany_InvalidBook, k_Refused_InvalidBook := yk_Refused_InvalidBook, k_NotDone_InvalidBook := yk_NotDone_InvalidBook, k_NotClosed_InvalidBook := yk_NotClosed_InvalidBook, k_Refusable_InvalidBook := yk_Refusable_InvalidBook, k_InvalidChoice_InvalidBook := yk_InvalidChoice_InvalidBook, k_UnknownSet_InvalidBook := yk_UnknownSet_InvalidBook, k_InvalidCommand_InvalidBook := yk_InvalidCommand_InvalidBook, k_InvalidSizes_InvalidBook := yk_InvalidSizes_InvalidBook, k_InvalidState_InvalidBook := yk_InvalidState_InvalidBook, k_InvalidTable_InvalidBook := yk_InvalidTable_InvalidBook, k_InvalidEvent_InvalidBook := yk_InvalidEvent_InvalidBook, k_InvalidRow_InvalidBook := yk_InvalidRow_InvalidBook, k_InvalidLine_InvalidBook := yk_InvalidLine_InvalidBook, k_NothingLeft_InvalidBook := yk_NothingLeft_InvalidBook, k_KnownName_InvalidBook := yk_KnownName_InvalidBook, k_UnknownName_InvalidBook := yk_UnknownName_InvalidBook, k_Closed_InvalidBook := yk_Closed_InvalidBook, k_Opened_InvalidBook := yk_Opened_InvalidBook, k_InvalidNumber_InvalidBook := yk_InvalidNumber_InvalidBook, k_InvalidRule_InvalidBook := yk_InvalidRule_InvalidBook, k_InvalidDisk_InvalidBook := yk_InvalidDisk_InvalidBook, k_InvalidName_InvalidBook := yk_InvalidName_InvalidBook, k_InvalidRuns_InvalidBook := yk_InvalidRuns_InvalidBook, k_InvalidBlock_InvalidBook := yk_InvalidBlock_InvalidBook, k_InvalidText_InvalidBook := yk_InvalidText_InvalidBook, k_InvalidBook_InvalidBook := yk_InvalidBook_InvalidBook, k_TooMany_InvalidNumber := yk_TooMany_InvalidNumber, k_Refused_InvalidNumber := yk_Refused_InvalidNumber, k_NotDone_InvalidNumber := yk_NotDone_InvalidNumber, k_NotClosed_InvalidNumber := yk_NotClosed_InvalidNumber, k_Refusable_InvalidNumber := yk_Refusable_InvalidNumber, k_InvalidChoice_InvalidNumber := yk_InvalidChoice_InvalidNumber, k_UnknownSet_InvalidNumber := yk_UnknownSet_InvalidNumber, k_InvalidCommand_InvalidNumber := yk_InvalidCommand_InvalidNumber, k_InvalidSizes_InvalidNumber := yk_InvalidSizes_InvalidNumber, k_InvalidState_InvalidNumber := yk_InvalidState_InvalidNumber, k_InvalidTable_InvalidNumber := yk_InvalidTable_InvalidNumber, k_InvalidEvent_InvalidNumber := yk_InvalidEvent_InvalidNumber, k_InvalidRow_InvalidNumber := yk_InvalidRow_InvalidNumber, k_InvalidLine_InvalidNumber := yk_InvalidLine_InvalidNumber, k_NothingLeft_InvalidNumber := yk_NothingLeft_InvalidNumber, k_KnownName_InvalidNumber := yk_KnownName_InvalidNumber, k_UnknownName_InvalidNumber := yk_UnknownName_InvalidNumber, k_Closed_InvalidNumber := yk_Closed_InvalidNumber, k_Opened_InvalidNumber := yk_Opened_InvalidNumber, k_InvalidNumber_InvalidNumber := yk_InvalidNumber_InvalidNumber, k_InvalidRule_InvalidNumber := yk_InvalidRule_InvalidNumber, k_InvalidDisk_InvalidNumber := yk_InvalidDisk_InvalidNumber, k_InvalidName_InvalidNumber := yk_InvalidName_InvalidNumber, k_InvalidRuns_InvalidNumber := yk_InvalidRuns_InvalidNumber, k_InvalidBlock_InvalidNumber := yk_InvalidBlock_InvalidNumber, k_InvalidText_InvalidNumber := yk_InvalidText_InvalidNumber, k_InvalidBook_InvalidNumber := yk_InvalidBook_InvalidNumber, k_TooMany_InvalidRule := yk_TooMany_InvalidRule, k_Refused_InvalidRule := yk_Refused_InvalidRule, k_NotDone_InvalidRule := yk_NotDone_InvalidRule, k_NotClosed_InvalidRule := yk_NotClosed_InvalidRule, k_Refusable_InvalidRule := yk_Refusable_InvalidRule, k_InvalidChoice_InvalidRule := yk_InvalidChoice_InvalidRule, k_UnknownSet_InvalidRule := yk_UnknownSet_InvalidRule, k_InvalidCommand_InvalidRule := yk_InvalidCommand_InvalidRule, k_InvalidSizes_InvalidRule := yk_InvalidSizes_InvalidRule, k_InvalidState_InvalidRule := yk_InvalidState_InvalidRule, k_InvalidTable_InvalidRule := yk_InvalidTable_InvalidRule, k_InvalidEvent_InvalidRule := yk_InvalidEvent_InvalidRule, k_InvalidRow_InvalidRule := yk_InvalidRow_InvalidRule, k_InvalidLine_InvalidRule := yk_InvalidLine_InvalidRule, k_NothingLeft_InvalidRule := yk_NothingLeft_InvalidRule, k_KnownName_InvalidRule := yk_KnownName_InvalidRule, k_UnknownName_InvalidRule := yk_UnknownName_InvalidRule, k_Closed_InvalidRule := yk_Closed_InvalidRule, k_Opened_InvalidRule := yk_Opened_InvalidRule, k_InvalidNumber_InvalidRule := yk_InvalidNumber_InvalidRule, k_InvalidRule_InvalidRule := yk_InvalidRule_InvalidRule, k_InvalidDisk_InvalidRule := yk_InvalidDisk_InvalidRule, k_InvalidName_InvalidRule := yk_InvalidName_InvalidRule, k_InvalidRuns_InvalidRule := yk_InvalidRuns_InvalidRule, k_InvalidBlock_InvalidRule := yk_InvalidBlock_InvalidRule, k_InvalidText_InvalidRule := yk_InvalidText_InvalidRule, k_InvalidBook_InvalidRule := yk_InvalidBook_InvalidRule, k_TooMany_InvalidRuns := yk_TooMany_InvalidRuns, k_Refused_InvalidRuns := yk_Refused_InvalidRuns, k_NotDone_InvalidRuns := yk_NotDone_InvalidRuns, k_NotClosed_InvalidRuns := yk_NotClosed_InvalidRuns, k_Refusable_InvalidRuns := yk_Refusable_InvalidRuns, k_InvalidChoice_InvalidRuns := yk_InvalidChoice_InvalidRuns, k_UnknownSet_InvalidRuns := yk_UnknownSet_InvalidRuns, k_InvalidCommand_InvalidRuns := yk_InvalidCommand_InvalidRuns, k_InvalidSizes_InvalidRuns := yk_InvalidSizes_InvalidRuns, k_InvalidState_InvalidRuns := yk_InvalidState_InvalidRuns, k_InvalidTable_InvalidRuns := yk_InvalidTable_InvalidRuns, k_InvalidEvent_InvalidRuns := yk_InvalidEvent_InvalidRuns, k_InvalidRow_InvalidRuns := yk_InvalidRow_InvalidRuns, k_InvalidLine_InvalidRuns := yk_InvalidLine_InvalidRuns, k_NothingLeft_InvalidRuns := yk_NothingLeft_InvalidRuns, k_KnownName_InvalidRuns := yk_KnownName_InvalidRuns, k_UnknownName_InvalidRuns := yk_UnknownName_InvalidRuns, k_Closed_InvalidRuns := yk_Closed_InvalidRuns, k_Opened_InvalidRuns := yk_Opened_InvalidRuns, k_InvalidNumber_InvalidRuns := yk_InvalidNumber_InvalidRuns, k_InvalidRule_InvalidRuns := yk_InvalidRule_InvalidRuns, k_InvalidDisk_InvalidRuns := yk_InvalidDisk_InvalidRuns, k_InvalidName_InvalidRuns := yk_InvalidName_InvalidRuns, k_InvalidRuns_InvalidRuns := yk_InvalidRuns_InvalidRuns, k_InvalidBlock_InvalidRuns := yk_InvalidBlock_InvalidRuns, k_InvalidText_InvalidRuns := yk_InvalidText_InvalidRuns, k_InvalidBook_InvalidRuns := yk_InvalidBook_InvalidRuns, k_TooMany_InvalidBlock := yk_TooMany_InvalidBlock, k_Refused_InvalidBlock := yk_Refused_InvalidBlock, k_NotDone_InvalidBlock := yk_NotDone_InvalidBlock, k_NotClosed_InvalidBlock := yk_NotClosed_InvalidBlock, k_Refusable_InvalidBlock := yk_Refusable_InvalidBlock, k_InvalidChoice_InvalidBlock := yk_InvalidChoice_InvalidBlock, k_UnknownSet_InvalidBlock := yk_UnknownSet_InvalidBlock, k_InvalidCommand_InvalidBlock := yk_InvalidCommand_InvalidBlock, k_InvalidSizes_InvalidBlock := yk_InvalidSizes_InvalidBlock, k_InvalidState_InvalidBlock := yk_InvalidState_InvalidBlock, k_InvalidTable_InvalidBlock := yk_InvalidTable_InvalidBlock, k_InvalidEvent_InvalidBlock := yk_InvalidEvent_InvalidBlock, k_InvalidRow_InvalidBlock := yk_InvalidRow_InvalidBlock, k_InvalidLine_InvalidBlock := yk_InvalidLine_InvalidBlock, k_NothingLeft_InvalidBlock := yk_NothingLeft_InvalidBlock, k_KnownName_InvalidBlock := yk_KnownName_InvalidBlock, k_UnknownName_InvalidBlock := yk_UnknownName_InvalidBlock, k_Closed_InvalidBlock := yk_Closed_InvalidBlock, k_Opened_InvalidBlock := yk_Opened_InvalidBlock, k_InvalidNumber_InvalidBlock := yk_InvalidNumber_InvalidBlock, k_InvalidRule_InvalidBlock := yk_InvalidRule_InvalidBlock, k_InvalidDisk_InvalidBlock := yk_InvalidDisk_InvalidBlock, k_InvalidName_InvalidBlock := yk_InvalidName_InvalidBlock, k_InvalidRuns_InvalidBlock := yk_InvalidRuns_InvalidBlock, k_InvalidBlock_InvalidBlock := yk_InvalidBlock_InvalidBlock, k_InvalidText_InvalidBlock := yk_InvalidText_InvalidBlock, k_InvalidBook_InvalidBlock := yk_InvalidBook_InvalidBlock, k_TooMany_InvalidText := yk_TooMany_InvalidText, k_Refused_InvalidText := yk_Refused_InvalidText, k_NotDone_InvalidText := yk_NotDone_InvalidText, k_NotClosed_InvalidText := yk_NotClosed_InvalidText, k_Refusable_InvalidText := yk_Refusable_InvalidText, k_InvalidChoice_InvalidText := yk_InvalidChoice_InvalidText, k_UnknownSet_InvalidText := yk_UnknownSet_InvalidText, k_InvalidCommand_InvalidText := yk_InvalidCommand_InvalidText, k_InvalidSizes_InvalidText := yk_InvalidSizes_InvalidText, k_InvalidState_InvalidText := yk_InvalidState_InvalidText, k_InvalidTable_InvalidText := yk_InvalidTable_InvalidText, k_InvalidEvent_InvalidText := yk_InvalidEvent_InvalidText, k_InvalidRow_InvalidText := yk_InvalidRow_InvalidText, k_InvalidLine_InvalidText := yk_InvalidLine_InvalidText, k_NothingLeft_InvalidText := yk_NothingLeft_InvalidText, k_KnownName_InvalidText := yk_KnownName_InvalidText, k_UnknownName_InvalidText := yk_UnknownName_InvalidText, k_Closed_InvalidText := yk_Closed_InvalidText, k_Opened_InvalidText := yk_Opened_InvalidText, k_InvalidNumber_InvalidText := yk_InvalidNumber_InvalidText, k_InvalidRule_InvalidText := yk_InvalidRule_InvalidText, k_InvalidDisk_InvalidText := yk_InvalidDisk_InvalidText, k_InvalidName_InvalidText := yk_InvalidName_InvalidText, k_InvalidRuns_InvalidText := yk_InvalidRuns_InvalidText, k_InvalidBlock_InvalidText := yk_InvalidBlock_InvalidText, k_InvalidText_InvalidText := yk_InvalidText_InvalidText, k_InvalidBook_InvalidText := yk_InvalidBook_InvalidText, k_TooMany_GrowError := yk_TooMany_GrowError, k_Refused_GrowError := yk_Refused_GrowError, k_NotDone_GrowError := yk_NotDone_GrowError, k_NotClosed_GrowError := yk_NotClosed_GrowError, k_Refusable_GrowError := yk_Refusable_GrowError, k_InvalidChoice_GrowError := yk_InvalidChoice_GrowError, k_UnknownSet_GrowError := yk_UnknownSet_GrowError, k_InvalidCommand_GrowError := yk_InvalidCommand_GrowError, k_InvalidSizes_GrowError := yk_InvalidSizes_GrowError, k_InvalidState_GrowError := yk_InvalidState_GrowError, k_InvalidTable_GrowError := yk_InvalidTable_GrowError, k_InvalidEvent_GrowError := yk_InvalidEvent_GrowError, k_InvalidRow_GrowError := yk_InvalidRow_GrowError, k_InvalidLine_GrowError := yk_InvalidLine_GrowError, k_NothingLeft_GrowError := yk_NothingLeft_GrowError, k_KnownName_GrowError := yk_KnownName_GrowError, k_UnknownName_GrowError := yk_UnknownName_GrowError, k_Closed_GrowError := yk_Closed_GrowError, k_Opened_GrowError := yk_Opened_GrowError, k_InvalidNumber_GrowError := yk_InvalidNumber_GrowError, k_InvalidRule_GrowError := yk_InvalidRule_GrowError, k_InvalidDisk_GrowError := yk_InvalidDisk_GrowError, k_InvalidName_GrowError := yk_InvalidName_GrowError, k_InvalidRuns_GrowError := yk_InvalidRuns_GrowError, k_InvalidBlock_GrowError := yk_InvalidBlock_GrowError, k_InvalidText_GrowError := yk_InvalidText_GrowError, k_InvalidBook_GrowError := yk_InvalidBook_GrowError }
  exact ⟨_, fun s v => .of_eq rfl, fun base _ _ => (ok_law TT).gen⟩
end TL
open PySem PySem.W PyProof.Rows
set_option maxHeartbeats 0 in
theorem PySem.Challenge.cw_grownfiles_k32_errors_holds : PySem.Challenge.rw_grownfiles_k32_errors.Holds := by
  w_on; o_law; k_head; (case hw => w_witness2)
  k_fill
  refine L2.walk_of (l := PySem.Challenge.rw_grownfiles_k32_errors) (n := 63) (k := 4) (x := "_law_script") (CX := fun w => L2.CX PySem.Challenge.rw_grownfiles_k32_errors.prog w) (sp := fun w => TL.liftSp _ 1 TL.C_law) rfl (by decide) rfl ⟨rfl, by decide, by decide⟩ (fun w h Y => by first | exact PySem.W.kIn_of Y | exact PySem.W.km_in_of Y) ?F (fun _ H a ns hl hO hS => TL.law_start hS ⟨ns, rfl, hl, fun _ => rfl⟩) (fun _ H s e s' => TL.no_law)
  case F =>
    intro w mg fa h KX G hmg
    refine' TL.all_mk KX G hmg ?a1 ?l1 ?c1 ?k1 ?a2 ?l2 ?c2 ?k2 ?a3 ?l3 ?c3 ?k3 ?a4 ?l4 ?c4 ?k4 ?a5 ?l5 ?c5 ?k5 ?a6 ?l6 ?c6 ?k6 ?a7 ?l7 ?c7 ?k7 ?z_ValueError ?z_enumerate ?z_int ?z_isinstance ?z_len ?z_max ?z_min ?z_range ?ga_TooMany ?ga_GrowError ?ga_Refused ?ga_NotDone ?ga_NotClosed ?ga_Refusable ?ga_InvalidChoice ?ga_UnknownSet ?ga_InvalidCommand ?ga_InvalidSizes ?ga_InvalidState ?ga_InvalidTable ?ga_InvalidEvent ?ga_InvalidRow ?ga_InvalidLine ?ga_NothingLeft ?ga_KnownName ?ga_UnknownName ?ga_Closed ?ga_Opened ?ga_InvalidNumber ?ga_InvalidRule ?ga_InvalidDisk ?ga_InvalidName ?ga_InvalidRuns ?ga_InvalidBlock ?ga_InvalidText ?ga_InvalidBook ?xL_TooMany ?xsa_TooMany ?xga_TooMany ?xgg_TooMany ?xnf_TooMany ?xi_TooMany ?xt_TooMany ?xl_TooMany ?xc_TooMany ?xki_TooMany ?xk_TooMany ?xe_TooMany ?xty_TooMany ?xh_TooMany ?xcl_TooMany ?xsp_TooMany ?xtk_TooMany ?xm_TooMany ?xL_Refused ?xsa_Refused ?xga_Refused ?xgg_Refused ?xnf_Refused ?xnf2_Refused ?xi_Refused ?xt_Refused ?xl_Refused ?xc_Refused ?xki_Refused ?xk_Refused ?xe_Refused ?xty_Refused ?xh_Refused ?xcl_Refused ?xsp_Refused ?xtk_Refused ?xm_Refused ?xL_NotDone ?xsa_NotDone ?xga_NotDone ?xgg_NotDone ?xnf_NotDone ?xnf2_NotDone ?xi_NotDone ?xt_NotDone ?xl_NotDone ?xc_NotDone ?xki_NotDone ?xk_NotDone ?xe_NotDone ?xty_NotDone ?xh_NotDone ?xcl_NotDone ?xsp_NotDone ?xtk_NotDone ?xm_NotDone ?xL_NotClosed ?xsa_NotClosed ?xga_NotClosed ?xgg_NotClosed ?xnf_NotClosed ?xi_NotClosed ?xt_NotClosed ?xl_NotClosed ?xc_NotClosed ?xki_NotClosed ?xk_NotClosed ?xe_NotClosed ?xty_NotClosed ?xh_NotClosed ?xcl_NotClosed ?xsp_NotClosed ?xtk_NotClosed ?xm_NotClosed ?xL_Refusable ?xsa_Refusable ?xga_Refusable ?xgg_Refusable ?xnf_Refusable ?xi_Refusable ?xt_Refusable ?xl_Refusable ?xc_Refusable ?xki_Refusable ?xk_Refusable ?xe_Refusable ?xty_Refusable ?xh_Refusable ?xcl_Refusable ?xsp_Refusable ?xtk_Refusable ?xm_Refusable ?xL_InvalidChoice ?xsa_InvalidChoice ?xga_InvalidChoice ?xgg_InvalidChoice ?xnf_InvalidChoice ?xi_InvalidChoice ?xt_InvalidChoice ?xl_InvalidChoice ?xc_InvalidChoice ?xki_InvalidChoice ?xk_InvalidChoice ?xe_InvalidChoice ?xty_InvalidChoice ?xh_InvalidChoice ?xcl_InvalidChoice ?xsp_InvalidChoice ?xtk_InvalidChoice ?xm_InvalidChoice ?xL_UnknownSet ?xsa_UnknownSet ?xga_UnknownSet ?xgg_UnknownSet ?xnf_UnknownSet ?xi_UnknownSet ?xt_UnknownSet ?xl_UnknownSet ?xc_UnknownSet ?xki_UnknownSet ?xk_UnknownSet ?xe_UnknownSet ?xty_UnknownSet ?xh_UnknownSet ?xcl_UnknownSet ?xsp_UnknownSet ?xtk_UnknownSet ?xm_UnknownSet ?xL_InvalidCommand ?xsa_InvalidCommand ?xga_InvalidCommand ?xgg_InvalidCommand ?xnf_InvalidCommand ?xi_InvalidCommand ?xt_InvalidCommand ?xl_InvalidCommand ?xc_InvalidCommand ?xki_InvalidCommand ?xk_InvalidCommand ?xe_InvalidCommand ?xty_InvalidCommand ?xh_InvalidCommand ?xcl_InvalidCommand ?xsp_InvalidCommand ?xtk_InvalidCommand ?xm_InvalidCommand ?xL_InvalidSizes ?xsa_InvalidSizes ?xga_InvalidSizes ?xgg_InvalidSizes ?xnf_InvalidSizes ?xi_InvalidSizes ?xt_InvalidSizes ?xl_InvalidSizes ?xc_InvalidSizes ?xki_InvalidSizes ?xk_InvalidSizes ?xe_InvalidSizes ?xty_InvalidSizes ?xh_InvalidSizes ?xcl_InvalidSizes ?xsp_InvalidSizes ?xtk_InvalidSizes ?xm_InvalidSizes ?xL_InvalidState ?xsa_InvalidState ?xga_InvalidState ?xgg_InvalidState ?xnf_InvalidState ?xi_InvalidState ?xt_InvalidState ?xl_InvalidState ?xc_InvalidState ?xki_InvalidState ?xk_InvalidState ?xe_InvalidState ?xty_InvalidState ?xh_InvalidState ?xcl_InvalidState ?xsp_InvalidState ?xtk_InvalidState ?xm_InvalidState ?xL_InvalidTable ?xsa_InvalidTable ?xga_InvalidTable ?xgg_InvalidTable ?xnf_InvalidTable ?xi_InvalidTable ?xt_InvalidTable ?xl_InvalidTable ?xc_InvalidTable ?xki_InvalidTable ?xk_InvalidTable ?xe_InvalidTable ?xty_InvalidTable ?xh_InvalidTable ?xcl_InvalidTable ?xsp_InvalidTable ?xtk_InvalidTable ?xm_InvalidTable ?xL_InvalidEvent ?xsa_InvalidEvent ?xga_InvalidEvent ?xgg_InvalidEvent ?xnf_InvalidEvent ?xi_InvalidEvent ?xt_InvalidEvent ?xl_InvalidEvent ?xc_InvalidEvent ?xki_InvalidEvent ?xk_InvalidEvent ?xe_InvalidEvent ?xty_InvalidEvent ?xh_InvalidEvent ?xcl_InvalidEvent ?xsp_InvalidEvent ?xtk_InvalidEvent ?xm_InvalidEvent ?xL_InvalidRow ?xsa_InvalidRow ?xga_InvalidRow ?xgg_InvalidRow ?xnf_InvalidRow ?xi_InvalidRow ?xt_InvalidRow ?xl_InvalidRow ?xc_InvalidRow ?xki_InvalidRow ?xk_InvalidRow ?xe_InvalidRow ?xty_InvalidRow ?xh_InvalidRow ?xcl_InvalidRow ?xsp_InvalidRow ?xtk_InvalidRow ?xm_InvalidRow ?xL_InvalidLine ?xsa_InvalidLine ?xga_InvalidLine ?xgg_InvalidLine ?xnf_InvalidLine ?xi_InvalidLine ?xt_InvalidLine ?xl_InvalidLine ?xc_InvalidLine ?xki_InvalidLine ?xk_InvalidLine ?xe_InvalidLine ?xty_InvalidLine ?xh_InvalidLine ?xcl_InvalidLine ?xsp_InvalidLine ?xtk_InvalidLine ?xm_InvalidLine ?xL_NothingLeft ?xsa_NothingLeft ?xga_NothingLeft ?xgg_NothingLeft ?xnf_NothingLeft ?xi_NothingLeft ?xt_NothingLeft ?xl_NothingLeft ?xc_NothingLeft ?xki_NothingLeft ?xk_NothingLeft ?xe_NothingLeft ?xty_NothingLeft ?xh_NothingLeft ?xcl_NothingLeft ?xsp_NothingLeft ?xtk_NothingLeft ?xm_NothingLeft ?xL_KnownName ?xsa_KnownName ?xga_KnownName ?xgg_KnownName ?xnf_KnownName ?xi_KnownName ?xt_KnownName ?xl_KnownName ?xc_KnownName ?xki_KnownName ?xk_KnownName ?xe_KnownName ?xty_KnownName ?xh_KnownName ?xcl_KnownName ?xsp_KnownName ?xtk_KnownName ?xm_KnownName ?xL_UnknownName ?xsa_UnknownName ?xga_UnknownName ?xgg_UnknownName ?xnf_UnknownName ?xi_UnknownName ?xt_UnknownName ?xl_UnknownName ?xc_UnknownName ?xki_UnknownName ?xk_UnknownName ?xe_UnknownName ?xty_UnknownName ?xh_UnknownName ?xcl_UnknownName ?xsp_UnknownName ?xtk_UnknownName ?xm_UnknownName ?xL_Closed ?xsa_Closed ?xga_Closed ?xgg_Closed ?xnf_Closed ?xi_Closed ?xt_Closed ?xl_Closed ?xc_Closed ?xki_Closed ?xk_Closed ?xe_Closed ?xty_Closed ?xh_Closed ?xcl_Closed ?xsp_Closed ?xtk_Closed ?xm_Closed ?xL_Opened ?xsa_Opened ?xga_Opened ?xgg_Opened ?xnf_Opened ?xi_Opened ?xt_Opened ?xl_Opened ?xc_Opened ?xki_Opened ?xk_Opened ?xe_Opened ?xty_Opened ?xh_Opened ?xcl_Opened ?xsp_Opened ?xtk_Opened ?xm_Opened ?xL_InvalidNumber ?xsa_InvalidNumber ?xga_InvalidNumber ?xgg_InvalidNumber ?xnf_InvalidNumber ?xi_InvalidNumber ?xt_InvalidNumber ?xl_InvalidNumber ?xc_InvalidNumber ?xki_InvalidNumber ?xk_InvalidNumber ?xe_InvalidNumber ?xty_InvalidNumber ?xh_InvalidNumber ?xcl_InvalidNumber ?xsp_InvalidNumber ?xtk_InvalidNumber ?xm_InvalidNumber ?xL_InvalidRule ?xsa_InvalidRule ?xga_InvalidRule ?xgg_InvalidRule ?xnf_InvalidRule ?xi_InvalidRule ?xt_InvalidRule ?xl_InvalidRule ?xc_InvalidRule ?xki_InvalidRule ?xk_InvalidRule ?xe_InvalidRule ?xty_InvalidRule ?xh_InvalidRule ?xcl_InvalidRule ?xsp_InvalidRule ?xtk_InvalidRule ?xm_InvalidRule ?xL_InvalidDisk ?xsa_InvalidDisk ?xga_InvalidDisk ?xgg_InvalidDisk ?xnf_InvalidDisk ?xi_InvalidDisk ?xt_InvalidDisk ?xl_InvalidDisk ?xc_InvalidDisk ?xki_InvalidDisk ?xk_InvalidDisk ?xe_InvalidDisk ?xty_InvalidDisk ?xh_InvalidDisk ?xcl_InvalidDisk ?xsp_InvalidDisk ?xtk_InvalidDisk ?xm_InvalidDisk ?xL_InvalidName ?xsa_InvalidName ?xga_InvalidName ?xgg_InvalidName ?xnf_InvalidName ?xi_InvalidName ?xt_InvalidName ?xl_InvalidName ?xc_InvalidName ?xki_InvalidName ?xk_InvalidName ?xe_InvalidName ?xty_InvalidName ?xh_InvalidName ?xcl_InvalidName ?xsp_InvalidName ?xtk_InvalidName ?xm_InvalidName ?xL_InvalidRuns ?xsa_InvalidRuns ?xga_InvalidRuns ?xgg_InvalidRuns ?xnf_InvalidRuns ?xi_InvalidRuns ?xt_InvalidRuns ?xl_InvalidRuns ?xc_InvalidRuns ?xki_InvalidRuns ?xk_InvalidRuns ?xe_InvalidRuns ?xty_InvalidRuns ?xh_InvalidRuns ?xcl_InvalidRuns ?xsp_InvalidRuns ?xtk_InvalidRuns ?xm_InvalidRuns ?xL_InvalidBlock ?xsa_InvalidBlock ?xga_InvalidBlock ?xgg_InvalidBlock ?xnf_InvalidBlock ?xi_InvalidBlock ?xt_InvalidBlock ?xl_InvalidBlock ?xc_InvalidBlock ?xki_InvalidBlock ?xk_InvalidBlock ?xe_InvalidBlock ?xty_InvalidBlock ?xh_InvalidBlock ?xcl_InvalidBlock ?xsp_InvalidBlock ?xtk_InvalidBlock ?xm_InvalidBlock ?xL_InvalidText ?xsa_InvalidText ?xga_InvalidText ?xgg_InvalidText ?xnf_InvalidText ?xi_InvalidText ?xt_InvalidText ?xl_InvalidText ?xc_InvalidText ?xki_InvalidText ?xk_InvalidText ?xe_InvalidText ?xty_InvalidText ?xh_InvalidText ?xcl_InvalidText ?xsp_InvalidText ?xtk_InvalidText ?xm_InvalidText ?xL_InvalidBook ?xsa_InvalidBook ?xga_InvalidBook ?xgg_InvalidBook ?xnf_InvalidBook ?xi_InvalidBook ?xt_InvalidBook ?xl_InvalidBook ?xc_InvalidBook ?xki_InvalidBook ?xk_InvalidBook ?xe_InvalidBook ?xty_InvalidBook ?xh_InvalidBook ?xcl_InvalidBook ?xsp_InvalidBook ?xtk_InvalidBook ?xm_InvalidBook ?yk_TooMany_ValueError ?yk_Refused_ValueError ?yk_NotDone_ValueError ?yk_NotClosed_ValueError ?yk_Refusable_ValueError ?yk_InvalidChoice_ValueError ?yk_UnknownSet_ValueError ?yk_InvalidCommand_ValueError ?yk_InvalidSizes_ValueError ?yk_InvalidState_ValueError ?yk_InvalidTable_ValueError ?yk_InvalidEvent_ValueError ?yk_InvalidRow_ValueError ?yk_InvalidLine_ValueError ?yk_NothingLeft_ValueError ?yk_KnownName_ValueError ?yk_UnknownName_ValueError ?yk_Closed_ValueError ?yk_Opened_ValueError ?yk_InvalidNumber_ValueError ?yk_InvalidRule_ValueError ?yk_InvalidDisk_ValueError ?yk_InvalidName_ValueError ?yk_InvalidRuns_ValueError ?yk_InvalidBlock_ValueError ?yk_InvalidText_ValueError ?yk_InvalidBook_ValueError ?yk_TooMany_TooMany ?yk_Refused_TooMany ?yk_NotDone_TooMany ?yk_NotClosed_TooMany ?yk_Refusable_TooMany ?yk_InvalidChoice_TooMany ?yk_UnknownSet_TooMany ?yk_InvalidCommand_TooMany ?yk_InvalidSizes_TooMany ?yk_InvalidState_TooMany ?yk_InvalidTable_TooMany ?yk_InvalidEvent_TooMany ?yk_InvalidRow_TooMany ?yk_InvalidLine_TooMany ?yk_NothingLeft_TooMany ?yk_KnownName_TooMany ?yk_UnknownName_TooMany ?yk_Closed_TooMany ?yk_Opened_TooMany ?yk_InvalidNumber_TooMany ?yk_InvalidRule_TooMany ?yk_InvalidDisk_TooMany ?yk_InvalidName_TooMany ?yk_InvalidRuns_TooMany ?yk_InvalidBlock_TooMany ?yk_InvalidText_TooMany ?yk_InvalidBook_TooMany ?yk_TooMany_Refused ?yk_Refused_Refused ?yk_NotDone_Refused ?yk_NotClosed_Refused ?yk_Refusable_Refused ?yk_InvalidChoice_Refused ?yk_UnknownSet_Refused ?yk_InvalidCommand_Refused ?yk_InvalidSizes_Refused ?yk_InvalidState_Refused ?yk_InvalidTable_Refused ?yk_InvalidEvent_Refused ?yk_InvalidRow_Refused ?yk_InvalidLine_Refused ?yk_NothingLeft_Refused ?yk_KnownName_Refused ?yk_UnknownName_Refused ?yk_Closed_Refused ?yk_Opened_Refused ?yk_InvalidNumber_Refused ?yk_InvalidRule_Refused ?yk_InvalidDisk_Refused ?yk_InvalidName_Refused ?yk_InvalidRuns_Refused ?yk_InvalidBlock_Refused ?yk_InvalidText_Refused ?yk_InvalidBook_Refused ?yk_TooMany_NotDone ?yk_Refused_NotDone ?yk_NotDone_NotDone ?yk_NotClosed_NotDone ?yk_Refusable_NotDone ?yk_InvalidChoice_NotDone ?yk_UnknownSet_NotDone ?yk_InvalidCommand_NotDone ?yk_InvalidSizes_NotDone ?yk_InvalidState_NotDone ?yk_InvalidTable_NotDone ?yk_InvalidEvent_NotDone ?yk_InvalidRow_NotDone ?yk_InvalidLine_NotDone ?yk_NothingLeft_NotDone ?yk_KnownName_NotDone ?yk_UnknownName_NotDone ?yk_Closed_NotDone ?yk_Opened_NotDone ?yk_InvalidNumber_NotDone ?yk_InvalidRule_NotDone ?yk_InvalidDisk_NotDone ?yk_InvalidName_NotDone ?yk_InvalidRuns_NotDone ?yk_InvalidBlock_NotDone ?yk_InvalidText_NotDone ?yk_InvalidBook_NotDone ?yk_TooMany_Refusable ?yk_Refused_Refusable ?yk_NotDone_Refusable ?yk_NotClosed_Refusable ?yk_Refusable_Refusable ?yk_InvalidChoice_Refusable ?yk_UnknownSet_Refusable ?yk_InvalidCommand_Refusable ?yk_InvalidSizes_Refusable ?yk_InvalidState_Refusable ?yk_InvalidTable_Refusable ?yk_InvalidEvent_Refusable ?yk_InvalidRow_Refusable ?yk_InvalidLine_Refusable ?yk_NothingLeft_Refusable ?yk_KnownName_Refusable ?yk_UnknownName_Refusable ?yk_Closed_Refusable ?yk_Opened_Refusable ?yk_InvalidNumber_Refusable ?yk_InvalidRule_Refusable ?yk_InvalidDisk_Refusable ?yk_InvalidName_Refusable ?yk_InvalidRuns_Refusable ?yk_InvalidBlock_Refusable ?yk_InvalidText_Refusable ?yk_InvalidBook_Refusable ?yk_TooMany_InvalidChoice ?yk_Refused_InvalidChoice ?yk_NotDone_InvalidChoice ?yk_NotClosed_InvalidChoice ?yk_Refusable_InvalidChoice ?yk_InvalidChoice_InvalidChoice ?yk_UnknownSet_InvalidChoice ?yk_InvalidCommand_InvalidChoice ?yk_InvalidSizes_InvalidChoice ?yk_InvalidState_InvalidChoice ?yk_InvalidTable_InvalidChoice ?yk_InvalidEvent_InvalidChoice ?yk_InvalidRow_InvalidChoice ?yk_InvalidLine_InvalidChoice ?yk_NothingLeft_InvalidChoice ?yk_KnownName_InvalidChoice ?yk_UnknownName_InvalidChoice ?yk_Closed_InvalidChoice ?yk_Opened_InvalidChoice ?yk_InvalidNumber_InvalidChoice ?yk_InvalidRule_InvalidChoice ?yk_InvalidDisk_InvalidChoice ?yk_InvalidName_InvalidChoice ?yk_InvalidRuns_InvalidChoice ?yk_InvalidBlock_InvalidChoice ?yk_InvalidText_InvalidChoice ?yk_InvalidBook_InvalidChoice ?yk_TooMany_UnknownSet ?yk_Refused_UnknownSet ?yk_NotDone_UnknownSet ?yk_NotClosed_UnknownSet ?yk_Refusable_UnknownSet ?yk_InvalidChoice_UnknownSet ?yk_UnknownSet_UnknownSet ?yk_InvalidCommand_UnknownSet ?yk_InvalidSizes_UnknownSet ?yk_InvalidState_UnknownSet ?yk_InvalidTable_UnknownSet ?yk_InvalidEvent_UnknownSet ?yk_InvalidRow_UnknownSet ?yk_InvalidLine_UnknownSet ?yk_NothingLeft_UnknownSet ?yk_KnownName_UnknownSet ?yk_UnknownName_UnknownSet ?yk_Closed_UnknownSet ?yk_Opened_UnknownSet ?yk_InvalidNumber_UnknownSet ?yk_InvalidRule_UnknownSet ?yk_InvalidDisk_UnknownSet ?yk_InvalidName_UnknownSet ?yk_InvalidRuns_UnknownSet ?yk_InvalidBlock_UnknownSet ?yk_InvalidText_UnknownSet ?yk_InvalidBook_UnknownSet ?yk_TooMany_InvalidState ?yk_Refused_InvalidState ?yk_NotDone_InvalidState ?yk_NotClosed_InvalidState ?yk_Refusable_InvalidState ?yk_InvalidChoice_InvalidState ?yk_UnknownSet_InvalidState ?yk_InvalidCommand_InvalidState ?yk_InvalidSizes_InvalidState ?yk_InvalidState_InvalidState ?yk_InvalidTable_InvalidState ?yk_InvalidEvent_InvalidState ?yk_InvalidRow_InvalidState ?yk_InvalidLine_InvalidState ?yk_NothingLeft_InvalidState ?yk_KnownName_InvalidState ?yk_UnknownName_InvalidState ?yk_Closed_InvalidState ?yk_Opened_InvalidState ?yk_InvalidNumber_InvalidState ?yk_InvalidRule_InvalidState ?yk_InvalidDisk_InvalidState ?yk_InvalidName_InvalidState ?yk_InvalidRuns_InvalidState ?yk_InvalidBlock_InvalidState ?yk_InvalidText_InvalidState ?yk_InvalidBook_InvalidState ?yk_TooMany_InvalidTable ?yk_Refused_InvalidTable ?yk_NotDone_InvalidTable ?yk_NotClosed_InvalidTable ?yk_Refusable_InvalidTable ?yk_InvalidChoice_InvalidTable ?yk_UnknownSet_InvalidTable ?yk_InvalidCommand_InvalidTable ?yk_InvalidSizes_InvalidTable ?yk_InvalidState_InvalidTable ?yk_InvalidTable_InvalidTable ?yk_InvalidEvent_InvalidTable ?yk_InvalidRow_InvalidTable ?yk_InvalidLine_InvalidTable ?yk_NothingLeft_InvalidTable ?yk_KnownName_InvalidTable ?yk_UnknownName_InvalidTable ?yk_Closed_InvalidTable ?yk_Opened_InvalidTable ?yk_InvalidNumber_InvalidTable ?yk_InvalidRule_InvalidTable ?yk_InvalidDisk_InvalidTable ?yk_InvalidName_InvalidTable ?yk_InvalidRuns_InvalidTable ?yk_InvalidBlock_InvalidTable ?yk_InvalidText_InvalidTable ?yk_InvalidBook_InvalidTable ?yk_TooMany_NotClosed ?yk_Refused_NotClosed ?yk_NotDone_NotClosed ?yk_NotClosed_NotClosed ?yk_Refusable_NotClosed ?yk_InvalidChoice_NotClosed ?yk_UnknownSet_NotClosed ?yk_InvalidCommand_NotClosed ?yk_InvalidSizes_NotClosed ?yk_InvalidState_NotClosed ?yk_InvalidTable_NotClosed ?yk_InvalidEvent_NotClosed ?yk_InvalidRow_NotClosed ?yk_InvalidLine_NotClosed ?yk_NothingLeft_NotClosed ?yk_KnownName_NotClosed ?yk_UnknownName_NotClosed ?yk_Closed_NotClosed ?yk_Opened_NotClosed ?yk_InvalidNumber_NotClosed ?yk_InvalidRule_NotClosed ?yk_InvalidDisk_NotClosed ?yk_InvalidName_NotClosed ?yk_InvalidRuns_NotClosed ?yk_InvalidBlock_NotClosed ?yk_InvalidText_NotClosed ?yk_InvalidBook_NotClosed ?yk_TooMany_NothingLeft ?yk_Refused_NothingLeft ?yk_NotDone_NothingLeft ?yk_NotClosed_NothingLeft ?yk_Refusable_NothingLeft ?yk_InvalidChoice_NothingLeft ?yk_UnknownSet_NothingLeft ?yk_InvalidCommand_NothingLeft ?yk_InvalidSizes_NothingLeft ?yk_InvalidState_NothingLeft ?yk_InvalidTable_NothingLeft ?yk_InvalidEvent_NothingLeft ?yk_InvalidRow_NothingLeft ?yk_InvalidLine_NothingLeft ?yk_NothingLeft_NothingLeft ?yk_KnownName_NothingLeft ?yk_UnknownName_NothingLeft ?yk_Closed_NothingLeft ?yk_Opened_NothingLeft ?yk_InvalidNumber_NothingLeft ?yk_InvalidRule_NothingLeft ?yk_InvalidDisk_NothingLeft ?yk_InvalidName_NothingLeft ?yk_InvalidRuns_NothingLeft ?yk_InvalidBlock_NothingLeft ?yk_InvalidText_NothingLeft ?yk_InvalidBook_NothingLeft ?yk_TooMany_InvalidCommand ?yk_Refused_InvalidCommand ?yk_NotDone_InvalidCommand ?yk_NotClosed_InvalidCommand ?yk_Refusable_InvalidCommand ?yk_InvalidChoice_InvalidCommand ?yk_UnknownSet_InvalidCommand ?yk_InvalidCommand_InvalidCommand ?yk_InvalidSizes_InvalidCommand ?yk_InvalidState_InvalidCommand ?yk_InvalidTable_InvalidCommand ?yk_InvalidEvent_InvalidCommand ?yk_InvalidRow_InvalidCommand ?yk_InvalidLine_InvalidCommand ?yk_NothingLeft_InvalidCommand ?yk_KnownName_InvalidCommand ?yk_UnknownName_InvalidCommand ?yk_Closed_InvalidCommand ?yk_Opened_InvalidCommand ?yk_InvalidNumber_InvalidCommand ?yk_InvalidRule_InvalidCommand ?yk_InvalidDisk_InvalidCommand ?yk_InvalidName_InvalidCommand ?yk_InvalidRuns_InvalidCommand ?yk_InvalidBlock_InvalidCommand ?yk_InvalidText_InvalidCommand ?yk_InvalidBook_InvalidCommand ?yk_TooMany_InvalidSizes ?yk_Refused_InvalidSizes ?yk_NotDone_InvalidSizes ?yk_NotClosed_InvalidSizes ?yk_Refusable_InvalidSizes ?yk_InvalidChoice_InvalidSizes ?yk_UnknownSet_InvalidSizes ?yk_InvalidCommand_InvalidSizes ?yk_InvalidSizes_InvalidSizes ?yk_InvalidState_InvalidSizes ?yk_InvalidTable_InvalidSizes ?yk_InvalidEvent_InvalidSizes ?yk_InvalidRow_InvalidSizes ?yk_InvalidLine_InvalidSizes ?yk_NothingLeft_InvalidSizes ?yk_KnownName_InvalidSizes ?yk_UnknownName_InvalidSizes ?yk_Closed_InvalidSizes ?yk_Opened_InvalidSizes ?yk_InvalidNumber_InvalidSizes ?yk_InvalidRule_InvalidSizes ?yk_InvalidDisk_InvalidSizes ?yk_InvalidName_InvalidSizes ?yk_InvalidRuns_InvalidSizes ?yk_InvalidBlock_InvalidSizes ?yk_InvalidText_InvalidSizes ?yk_InvalidBook_InvalidSizes ?yk_TooMany_InvalidEvent ?yk_Refused_InvalidEvent ?yk_NotDone_InvalidEvent ?yk_NotClosed_InvalidEvent ?yk_Refusable_InvalidEvent ?yk_InvalidChoice_InvalidEvent ?yk_UnknownSet_InvalidEvent ?yk_InvalidCommand_InvalidEvent ?yk_InvalidSizes_InvalidEvent ?yk_InvalidState_InvalidEvent ?yk_InvalidTable_InvalidEvent ?yk_InvalidEvent_InvalidEvent ?yk_InvalidRow_InvalidEvent ?yk_InvalidLine_InvalidEvent ?yk_NothingLeft_InvalidEvent ?yk_KnownName_InvalidEvent ?yk_UnknownName_InvalidEvent ?yk_Closed_InvalidEvent ?yk_Opened_InvalidEvent ?yk_InvalidNumber_InvalidEvent ?yk_InvalidRule_InvalidEvent ?yk_InvalidDisk_InvalidEvent ?yk_InvalidName_InvalidEvent ?yk_InvalidRuns_InvalidEvent ?yk_InvalidBlock_InvalidEvent ?yk_InvalidText_InvalidEvent ?yk_InvalidBook_InvalidEvent ?yk_TooMany_InvalidRow ?yk_Refused_InvalidRow ?yk_NotDone_InvalidRow ?yk_NotClosed_InvalidRow ?yk_Refusable_InvalidRow ?yk_InvalidChoice_InvalidRow ?yk_UnknownSet_InvalidRow ?yk_InvalidCommand_InvalidRow ?yk_InvalidSizes_InvalidRow ?yk_InvalidState_InvalidRow ?yk_InvalidTable_InvalidRow ?yk_InvalidEvent_InvalidRow ?yk_InvalidRow_InvalidRow ?yk_InvalidLine_InvalidRow ?yk_NothingLeft_InvalidRow ?yk_KnownName_InvalidRow ?yk_UnknownName_InvalidRow ?yk_Closed_InvalidRow ?yk_Opened_InvalidRow ?yk_InvalidNumber_InvalidRow ?yk_InvalidRule_InvalidRow ?yk_InvalidDisk_InvalidRow ?yk_InvalidName_InvalidRow ?yk_InvalidRuns_InvalidRow ?yk_InvalidBlock_InvalidRow ?yk_InvalidText_InvalidRow ?yk_InvalidBook_InvalidRow ?yk_TooMany_InvalidLine ?yk_Refused_InvalidLine ?yk_NotDone_InvalidLine ?yk_NotClosed_InvalidLine ?yk_Refusable_InvalidLine ?yk_InvalidChoice_InvalidLine ?yk_UnknownSet_InvalidLine ?yk_InvalidCommand_InvalidLine ?yk_InvalidSizes_InvalidLine ?yk_InvalidState_InvalidLine ?yk_InvalidTable_InvalidLine ?yk_InvalidEvent_InvalidLine ?yk_InvalidRow_InvalidLine ?yk_InvalidLine_InvalidLine ?yk_NothingLeft_InvalidLine ?yk_KnownName_InvalidLine ?yk_UnknownName_InvalidLine ?yk_Closed_InvalidLine ?yk_Opened_InvalidLine ?yk_InvalidNumber_InvalidLine ?yk_InvalidRule_InvalidLine ?yk_InvalidDisk_InvalidLine ?yk_InvalidName_InvalidLine ?yk_InvalidRuns_InvalidLine ?yk_InvalidBlock_InvalidLine ?yk_InvalidText_InvalidLine ?yk_InvalidBook_InvalidLine ?yk_TooMany_UnknownName ?yk_Refused_UnknownName ?yk_NotDone_UnknownName ?yk_NotClosed_UnknownName ?yk_Refusable_UnknownName ?yk_InvalidChoice_UnknownName ?yk_UnknownSet_UnknownName ?yk_InvalidCommand_UnknownName ?yk_InvalidSizes_UnknownName ?yk_InvalidState_UnknownName ?yk_InvalidTable_UnknownName ?yk_InvalidEvent_UnknownName ?yk_InvalidRow_UnknownName ?yk_InvalidLine_UnknownName ?yk_NothingLeft_UnknownName ?yk_KnownName_UnknownName ?yk_UnknownName_UnknownName ?yk_Closed_UnknownName ?yk_Opened_UnknownName ?yk_InvalidNumber_UnknownName ?yk_InvalidRule_UnknownName ?yk_InvalidDisk_UnknownName ?yk_InvalidName_UnknownName ?yk_InvalidRuns_UnknownName ?yk_InvalidBlock_UnknownName ?yk_InvalidText_UnknownName ?yk_InvalidBook_UnknownName ?yk_TooMany_Closed ?yk_Refused_Closed ?yk_NotDone_Closed ?yk_NotClosed_Closed ?yk_Refusable_Closed ?yk_InvalidChoice_Closed ?yk_UnknownSet_Closed ?yk_InvalidCommand_Closed ?yk_InvalidSizes_Closed ?yk_InvalidState_Closed ?yk_InvalidTable_Closed ?yk_InvalidEvent_Closed ?yk_InvalidRow_Closed ?yk_InvalidLine_Closed ?yk_NothingLeft_Closed ?yk_KnownName_Closed ?yk_UnknownName_Closed ?yk_Closed_Closed ?yk_Opened_Closed ?yk_InvalidNumber_Closed ?yk_InvalidRule_Closed ?yk_InvalidDisk_Closed ?yk_InvalidName_Closed ?yk_InvalidRuns_Closed ?yk_InvalidBlock_Closed ?yk_InvalidText_Closed ?yk_InvalidBook_Closed ?yk_TooMany_Opened ?yk_Refused_Opened ?yk_NotDone_Opened ?yk_NotClosed_Opened ?yk_Refusable_Opened ?yk_InvalidChoice_Opened ?yk_UnknownSet_Opened ?yk_InvalidCommand_Opened ?yk_InvalidSizes_Opened ?yk_InvalidState_Opened ?yk_InvalidTable_Opened ?yk_InvalidEvent_Opened ?yk_InvalidRow_Opened ?yk_InvalidLine_Opened ?yk_NothingLeft_Opened ?yk_KnownName_Opened ?yk_UnknownName_Opened ?yk_Closed_Opened ?yk_Opened_Opened ?yk_InvalidNumber_Opened ?yk_InvalidRule_Opened ?yk_InvalidDisk_Opened ?yk_InvalidName_Opened ?yk_InvalidRuns_Opened ?yk_InvalidBlock_Opened ?yk_InvalidText_Opened ?yk_InvalidBook_Opened ?yk_TooMany_InvalidDisk ?yk_Refused_InvalidDisk ?yk_NotDone_InvalidDisk ?yk_NotClosed_InvalidDisk ?yk_Refusable_InvalidDisk ?yk_InvalidChoice_InvalidDisk ?yk_UnknownSet_InvalidDisk ?yk_InvalidCommand_InvalidDisk ?yk_InvalidSizes_InvalidDisk ?yk_InvalidState_InvalidDisk ?yk_InvalidTable_InvalidDisk ?yk_InvalidEvent_InvalidDisk ?yk_InvalidRow_InvalidDisk ?yk_InvalidLine_InvalidDisk ?yk_NothingLeft_InvalidDisk ?yk_KnownName_InvalidDisk ?yk_UnknownName_InvalidDisk ?yk_Closed_InvalidDisk ?yk_Opened_InvalidDisk ?yk_InvalidNumber_InvalidDisk ?yk_InvalidRule_InvalidDisk ?yk_InvalidDisk_InvalidDisk ?yk_InvalidName_InvalidDisk ?yk_InvalidRuns_InvalidDisk ?yk_InvalidBlock_InvalidDisk ?yk_InvalidText_InvalidDisk ?yk_InvalidBook_InvalidDisk ?yk_TooMany_InvalidName ?yk_Refused_InvalidName ?yk_NotDone_InvalidName ?yk_NotClosed_InvalidName ?yk_Refusable_InvalidName ?yk_InvalidChoice_InvalidName ?yk_UnknownSet_InvalidName ?yk_InvalidCommand_InvalidName ?yk_InvalidSizes_InvalidName ?yk_InvalidState_InvalidName ?yk_InvalidTable_InvalidName ?yk_InvalidEvent_InvalidName ?yk_InvalidRow_InvalidName ?yk_InvalidLine_InvalidName ?yk_NothingLeft_InvalidName ?yk_KnownName_InvalidName ?yk_UnknownName_InvalidName ?yk_Closed_InvalidName ?yk_Opened_InvalidName ?yk_InvalidNumber_InvalidName ?yk_InvalidRule_InvalidName ?yk_InvalidDisk_InvalidName ?yk_InvalidName_InvalidName ?yk_InvalidRuns_InvalidName ?yk_InvalidBlock_InvalidName ?yk_InvalidText_InvalidName ?yk_InvalidBook_InvalidName ?yk_TooMany_KnownName ?yk_Refused_KnownName ?yk_NotDone_KnownName ?yk_NotClosed_KnownName ?yk_Refusable_KnownName ?yk_InvalidChoice_KnownName ?yk_UnknownSet_KnownName ?yk_InvalidCommand_KnownName ?yk_InvalidSizes_KnownName ?yk_InvalidState_KnownName ?yk_InvalidTable_KnownName ?yk_InvalidEvent_KnownName ?yk_InvalidRow_KnownName ?yk_InvalidLine_KnownName ?yk_NothingLeft_KnownName ?yk_KnownName_KnownName ?yk_UnknownName_KnownName ?yk_Closed_KnownName ?yk_Opened_KnownName ?yk_InvalidNumber_KnownName ?yk_InvalidRule_KnownName ?yk_InvalidDisk_KnownName ?yk_InvalidName_KnownName ?yk_InvalidRuns_KnownName ?yk_InvalidBlock_KnownName ?yk_InvalidText_KnownName ?yk_InvalidBook_KnownName ?yk_TooMany_InvalidBook ?yk_Refused_InvalidBook ?yk_NotDone_InvalidBook ?yk_NotClosed_InvalidBook ?yk_Refusable_InvalidBook ?yk_InvalidChoice_InvalidBook ?yk_UnknownSet_InvalidBook ?yk_InvalidCommand_InvalidBook ?yk_InvalidSizes_InvalidBook ?yk_InvalidState_InvalidBook ?yk_InvalidTable_InvalidBook ?yk_InvalidEvent_InvalidBook ?yk_InvalidRow_InvalidBook ?yk_InvalidLine_InvalidBook ?yk_NothingLeft_InvalidBook ?yk_KnownName_InvalidBook ?yk_UnknownName_InvalidBook ?yk_Closed_InvalidBook ?yk_Opened_InvalidBook ?yk_InvalidNumber_InvalidBook ?yk_InvalidRule_InvalidBook ?yk_InvalidDisk_InvalidBook ?yk_InvalidName_InvalidBook ?yk_InvalidRuns_InvalidBook ?yk_InvalidBlock_InvalidBook ?yk_InvalidText_InvalidBook ?yk_InvalidBook_InvalidBook ?yk_TooMany_InvalidNumber ?yk_Refused_InvalidNumber ?yk_NotDone_InvalidNumber ?yk_NotClosed_InvalidNumber ?yk_Refusable_InvalidNumber ?yk_InvalidChoice_InvalidNumber ?yk_UnknownSet_InvalidNumber ?yk_InvalidCommand_InvalidNumber ?yk_InvalidSizes_InvalidNumber ?yk_InvalidState_InvalidNumber ?yk_InvalidTable_InvalidNumber ?yk_InvalidEvent_InvalidNumber ?yk_InvalidRow_InvalidNumber ?yk_InvalidLine_InvalidNumber ?yk_NothingLeft_InvalidNumber ?yk_KnownName_InvalidNumber ?yk_UnknownName_InvalidNumber ?yk_Closed_InvalidNumber ?yk_Opened_InvalidNumber ?yk_InvalidNumber_InvalidNumber ?yk_InvalidRule_InvalidNumber ?yk_InvalidDisk_InvalidNumber ?yk_InvalidName_InvalidNumber ?yk_InvalidRuns_InvalidNumber ?yk_InvalidBlock_InvalidNumber ?yk_InvalidText_InvalidNumber ?yk_InvalidBook_InvalidNumber ?yk_TooMany_InvalidRule ?yk_Refused_InvalidRule ?yk_NotDone_InvalidRule ?yk_NotClosed_InvalidRule ?yk_Refusable_InvalidRule ?yk_InvalidChoice_InvalidRule ?yk_UnknownSet_InvalidRule ?yk_InvalidCommand_InvalidRule ?yk_InvalidSizes_InvalidRule ?yk_InvalidState_InvalidRule ?yk_InvalidTable_InvalidRule ?yk_InvalidEvent_InvalidRule ?yk_InvalidRow_InvalidRule ?yk_InvalidLine_InvalidRule ?yk_NothingLeft_InvalidRule ?yk_KnownName_InvalidRule ?yk_UnknownName_InvalidRule ?yk_Closed_InvalidRule ?yk_Opened_InvalidRule ?yk_InvalidNumber_InvalidRule ?yk_InvalidRule_InvalidRule ?yk_InvalidDisk_InvalidRule ?yk_InvalidName_InvalidRule ?yk_InvalidRuns_InvalidRule ?yk_InvalidBlock_InvalidRule ?yk_InvalidText_InvalidRule ?yk_InvalidBook_InvalidRule ?yk_TooMany_InvalidRuns ?yk_Refused_InvalidRuns ?yk_NotDone_InvalidRuns ?yk_NotClosed_InvalidRuns ?yk_Refusable_InvalidRuns ?yk_InvalidChoice_InvalidRuns ?yk_UnknownSet_InvalidRuns ?yk_InvalidCommand_InvalidRuns ?yk_InvalidSizes_InvalidRuns ?yk_InvalidState_InvalidRuns ?yk_InvalidTable_InvalidRuns ?yk_InvalidEvent_InvalidRuns ?yk_InvalidRow_InvalidRuns ?yk_InvalidLine_InvalidRuns ?yk_NothingLeft_InvalidRuns ?yk_KnownName_InvalidRuns ?yk_UnknownName_InvalidRuns ?yk_Closed_InvalidRuns ?yk_Opened_InvalidRuns ?yk_InvalidNumber_InvalidRuns ?yk_InvalidRule_InvalidRuns ?yk_InvalidDisk_InvalidRuns ?yk_InvalidName_InvalidRuns ?yk_InvalidRuns_InvalidRuns ?yk_InvalidBlock_InvalidRuns ?yk_InvalidText_InvalidRuns ?yk_InvalidBook_InvalidRuns ?yk_TooMany_InvalidBlock ?yk_Refused_InvalidBlock ?yk_NotDone_InvalidBlock ?yk_NotClosed_InvalidBlock ?yk_Refusable_InvalidBlock ?yk_InvalidChoice_InvalidBlock ?yk_UnknownSet_InvalidBlock ?yk_InvalidCommand_InvalidBlock ?yk_InvalidSizes_InvalidBlock ?yk_InvalidState_InvalidBlock ?yk_InvalidTable_InvalidBlock ?yk_InvalidEvent_InvalidBlock ?yk_InvalidRow_InvalidBlock ?yk_InvalidLine_InvalidBlock ?yk_NothingLeft_InvalidBlock ?yk_KnownName_InvalidBlock ?yk_UnknownName_InvalidBlock ?yk_Closed_InvalidBlock ?yk_Opened_InvalidBlock ?yk_InvalidNumber_InvalidBlock ?yk_InvalidRule_InvalidBlock ?yk_InvalidDisk_InvalidBlock ?yk_InvalidName_InvalidBlock ?yk_InvalidRuns_InvalidBlock ?yk_InvalidBlock_InvalidBlock ?yk_InvalidText_InvalidBlock ?yk_InvalidBook_InvalidBlock ?yk_TooMany_InvalidText ?yk_Refused_InvalidText ?yk_NotDone_InvalidText ?yk_NotClosed_InvalidText ?yk_Refusable_InvalidText ?yk_InvalidChoice_InvalidText ?yk_UnknownSet_InvalidText ?yk_InvalidCommand_InvalidText ?yk_InvalidSizes_InvalidText ?yk_InvalidState_InvalidText ?yk_InvalidTable_InvalidText ?yk_InvalidEvent_InvalidText ?yk_InvalidRow_InvalidText ?yk_InvalidLine_InvalidText ?yk_NothingLeft_InvalidText ?yk_KnownName_InvalidText ?yk_UnknownName_InvalidText ?yk_Closed_InvalidText ?yk_Opened_InvalidText ?yk_InvalidNumber_InvalidText ?yk_InvalidRule_InvalidText ?yk_InvalidDisk_InvalidText ?yk_InvalidName_InvalidText ?yk_InvalidRuns_InvalidText ?yk_InvalidBlock_InvalidText ?yk_InvalidText_InvalidText ?yk_InvalidBook_InvalidText ?yk_TooMany_GrowError ?yk_Refused_GrowError ?yk_NotDone_GrowError ?yk_NotClosed_GrowError ?yk_Refusable_GrowError ?yk_InvalidChoice_GrowError ?yk_UnknownSet_GrowError ?yk_InvalidCommand_GrowError ?yk_InvalidSizes_GrowError ?yk_InvalidState_GrowError ?yk_InvalidTable_GrowError ?yk_InvalidEvent_GrowError ?yk_InvalidRow_GrowError ?yk_InvalidLine_GrowError ?yk_NothingLeft_GrowError ?yk_KnownName_GrowError ?yk_UnknownName_GrowError ?yk_Closed_GrowError ?yk_Opened_GrowError ?yk_InvalidNumber_GrowError ?yk_InvalidRule_GrowError ?yk_InvalidDisk_GrowError ?yk_InvalidName_GrowError ?yk_InvalidRuns_GrowError ?yk_InvalidBlock_GrowError ?yk_InvalidText_GrowError ?yk_InvalidBook_GrowError
    (case a1 => k_is)
    (case l1 => k_is)
    (case c1 => k_is)
    (case k1 => k_is)
    (case a2 => k_is)
    (case l2 => k_is)
    (case c2 => k_is)
    (case k2 => k_is)
    (case a3 => k_is)
    (case l3 => k_is)
    (case c3 => k_is)
    (case k3 => k_is)
    (case a4 => k_is)
    (case l4 => k_is)
    (case c4 => k_is)
    (case k4 => k_is)
    (case a5 => k_is)
    (case l5 => k_is)
    (case c5 => k_is)
    (case k5 => k_is)
    (case a6 => k_is)
    (case l6 => k_is)
    (case c6 => k_is)
    (case k6 => k_is)
    (case a7 => k_is)
    (case l7 => k_is)
    (case c7 => k_is)
    (case k7 => k_is)
    (case z_ValueError => k_is)
    (case z_enumerate => k_is)
    (case z_int => k_is)
    (case z_isinstance => k_is)
    (case z_len => k_is)
    (case z_max => k_is)
    (case z_min => k_is)
    (case z_range => k_is)
    (case ga_TooMany => k_is)
    (case ga_GrowError => k_is)
    (case ga_Refused => k_is)
    (case ga_NotDone => k_is)
    (case ga_NotClosed => k_is)
    (case ga_Refusable => k_is)
    (case ga_InvalidChoice => k_is)
    (case ga_UnknownSet => k_is)
    (case ga_InvalidCommand => k_is)
    (case ga_InvalidSizes => k_is)
    (case ga_InvalidState => k_is)
    (case ga_InvalidTable => k_is)
    (case ga_InvalidEvent => k_is)
    (case ga_InvalidRow => k_is)
    (case ga_InvalidLine => k_is)
    (case ga_NothingLeft => k_is)
    (case ga_KnownName => k_is)
    (case ga_UnknownName => k_is)
    (case ga_Closed => k_is)
    (case ga_Opened => k_is)
    (case ga_InvalidNumber => k_is)
    (case ga_InvalidRule => k_is)
    (case ga_InvalidDisk => k_is)
    (case ga_InvalidName => k_is)
    (case ga_InvalidRuns => k_is)
    (case ga_InvalidBlock => k_is)
    (case ga_InvalidText => k_is)
    (case ga_InvalidBook => k_is)
    (case xL_TooMany => k_is)
    (case xsa_TooMany => k_is)
    (case xga_TooMany => k_is)
    (case xgg_TooMany => k_is)
    (case xnf_TooMany => k_is)
    (case xi_TooMany => k_is)
    (case xt_TooMany => k_is)
    (case xl_TooMany => k_is)
    (case xc_TooMany => k_is)
    (case xki_TooMany => k_is)
    (case xk_TooMany => k_is)
    (case xe_TooMany => k_is)
    (case xty_TooMany => k_is)
    (case xh_TooMany => k_is)
    (case xcl_TooMany => k_is)
    (case xsp_TooMany => k_is)
    (case xtk_TooMany => k_is)
    (case xm_TooMany => k_is)
    (case xL_Refused => k_is)
    (case xsa_Refused => k_is)
    (case xga_Refused => k_is)
    (case xgg_Refused => k_is)
    (case xnf_Refused => k_is)
    (case xnf2_Refused => k_is)
    (case xi_Refused => k_is)
    (case xt_Refused => k_is)
    (case xl_Refused => k_is)
    (case xc_Refused => k_is)
    (case xki_Refused => k_is)
    (case xk_Refused => k_is)
    (case xe_Refused => k_is)
    (case xty_Refused => k_is)
    (case xh_Refused => k_is)
    (case xcl_Refused => k_is)
    (case xsp_Refused => k_is)
    (case xtk_Refused => k_is)
    (case xm_Refused => k_is)
    (case xL_NotDone => k_is)
    (case xsa_NotDone => k_is)
    (case xga_NotDone => k_is)
    (case xgg_NotDone => k_is)
    (case xnf_NotDone => k_is)
    (case xnf2_NotDone => k_is)
    (case xi_NotDone => k_is)
    (case xt_NotDone => k_is)
    (case xl_NotDone => k_is)
    (case xc_NotDone => k_is)
    (case xki_NotDone => k_is)
    (case xk_NotDone => k_is)
    (case xe_NotDone => k_is)
    (case xty_NotDone => k_is)
    (case xh_NotDone => k_is)
    (case xcl_NotDone => k_is)
    (case xsp_NotDone => k_is)
    (case xtk_NotDone => k_is)
    (case xm_NotDone => k_is)
    (case xL_NotClosed => k_is)
    (case xsa_NotClosed => k_is)
    (case xga_NotClosed => k_is)
    (case xgg_NotClosed => k_is)
    (case xnf_NotClosed => k_is)
    (case xi_NotClosed => k_is)
    (case xt_NotClosed => k_is)
    (case xl_NotClosed => k_is)
    (case xc_NotClosed => k_is)
    (case xki_NotClosed => k_is)
    (case xk_NotClosed => k_is)
    (case xe_NotClosed => k_is)
    (case xty_NotClosed => k_is)
    (case xh_NotClosed => k_is)
    (case xcl_NotClosed => k_is)
    (case xsp_NotClosed => k_is)
    (case xtk_NotClosed => k_is)
    (case xm_NotClosed => k_is)
    (case xL_Refusable => k_is)
    (case xsa_Refusable => k_is)
    (case xga_Refusable => k_is)
    (case xgg_Refusable => k_is)
    (case xnf_Refusable => k_is)
    (case xi_Refusable => k_is)
    (case xt_Refusable => k_is)
    (case xl_Refusable => k_is)
    (case xc_Refusable => k_is)
    (case xki_Refusable => k_is)
    (case xk_Refusable => k_is)
    (case xe_Refusable => k_is)
    (case xty_Refusable => k_is)
    (case xh_Refusable => k_is)
    (case xcl_Refusable => k_is)
    (case xsp_Refusable => k_is)
    (case xtk_Refusable => k_is)
    (case xm_Refusable => k_is)
    (case xL_InvalidChoice => k_is)
    (case xsa_InvalidChoice => k_is)
    (case xga_InvalidChoice => k_is)
    (case xgg_InvalidChoice => k_is)
    (case xnf_InvalidChoice => k_is)
    (case xi_InvalidChoice => k_is)
    (case xt_InvalidChoice => k_is)
    (case xl_InvalidChoice => k_is)
    (case xc_InvalidChoice => k_is)
    (case xki_InvalidChoice => k_is)
    (case xk_InvalidChoice => k_is)
    (case xe_InvalidChoice => k_is)
    (case xty_InvalidChoice => k_is)
    (case xh_InvalidChoice => k_is)
    (case xcl_InvalidChoice => k_is)
    (case xsp_InvalidChoice => k_is)
    (case xtk_InvalidChoice => k_is)
    (case xm_InvalidChoice => k_is)
    (case xL_UnknownSet => k_is)
    (case xsa_UnknownSet => k_is)
    (case xga_UnknownSet => k_is)
    (case xgg_UnknownSet => k_is)
    (case xnf_UnknownSet => k_is)
    (case xi_UnknownSet => k_is)
    (case xt_UnknownSet => k_is)
    (case xl_UnknownSet => k_is)
    (case xc_UnknownSet => k_is)
    (case xki_UnknownSet => k_is)
    (case xk_UnknownSet => k_is)
    (case xe_UnknownSet => k_is)
    (case xty_UnknownSet => k_is)
    (case xh_UnknownSet => k_is)
    (case xcl_UnknownSet => k_is)
    (case xsp_UnknownSet => k_is)
    (case xtk_UnknownSet => k_is)
    (case xm_UnknownSet => k_is)
    (case xL_InvalidCommand => k_is)
    (case xsa_InvalidCommand => k_is)
    (case xga_InvalidCommand => k_is)
    (case xgg_InvalidCommand => k_is)
    (case xnf_InvalidCommand => k_is)
    (case xi_InvalidCommand => k_is)
    (case xt_InvalidCommand => k_is)
    (case xl_InvalidCommand => k_is)
    (case xc_InvalidCommand => k_is)
    (case xki_InvalidCommand => k_is)
    (case xk_InvalidCommand => k_is)
    (case xe_InvalidCommand => k_is)
    (case xty_InvalidCommand => k_is)
    (case xh_InvalidCommand => k_is)
    (case xcl_InvalidCommand => k_is)
    (case xsp_InvalidCommand => k_is)
    (case xtk_InvalidCommand => k_is)
    (case xm_InvalidCommand => k_is)
    (case xL_InvalidSizes => k_is)
    (case xsa_InvalidSizes => k_is)
    (case xga_InvalidSizes => k_is)
    (case xgg_InvalidSizes => k_is)
    (case xnf_InvalidSizes => k_is)
    (case xi_InvalidSizes => k_is)
    (case xt_InvalidSizes => k_is)
    (case xl_InvalidSizes => k_is)
    (case xc_InvalidSizes => k_is)
    (case xki_InvalidSizes => k_is)
    (case xk_InvalidSizes => k_is)
    (case xe_InvalidSizes => k_is)
    (case xty_InvalidSizes => k_is)
    (case xh_InvalidSizes => k_is)
    (case xcl_InvalidSizes => k_is)
    (case xsp_InvalidSizes => k_is)
    (case xtk_InvalidSizes => k_is)
    (case xm_InvalidSizes => k_is)
    (case xL_InvalidState => k_is)
    (case xsa_InvalidState => k_is)
    (case xga_InvalidState => k_is)
    (case xgg_InvalidState => k_is)
    (case xnf_InvalidState => k_is)
    (case xi_InvalidState => k_is)
    (case xt_InvalidState => k_is)
    (case xl_InvalidState => k_is)
    (case xc_InvalidState => k_is)
    (case xki_InvalidState => k_is)
    (case xk_InvalidState => k_is)
    (case xe_InvalidState => k_is)
    (case xty_InvalidState => k_is)
    (case xh_InvalidState => k_is)
    (case xcl_InvalidState => k_is)
    (case xsp_InvalidState => k_is)
    (case xtk_InvalidState => k_is)
    (case xm_InvalidState => k_is)
    (case xL_InvalidTable => k_is)
    (case xsa_InvalidTable => k_is)
    (case xga_InvalidTable => k_is)
    (case xgg_InvalidTable => k_is)
    (case xnf_InvalidTable => k_is)
    (case xi_InvalidTable => k_is)
    (case xt_InvalidTable => k_is)
    (case xl_InvalidTable => k_is)
    (case xc_InvalidTable => k_is)
    (case xki_InvalidTable => k_is)
    (case xk_InvalidTable => k_is)
    (case xe_InvalidTable => k_is)
    (case xty_InvalidTable => k_is)
    (case xh_InvalidTable => k_is)
    (case xcl_InvalidTable => k_is)
    (case xsp_InvalidTable => k_is)
    (case xtk_InvalidTable => k_is)
    (case xm_InvalidTable => k_is)
    (case xL_InvalidEvent => k_is)
    (case xsa_InvalidEvent => k_is)
    (case xga_InvalidEvent => k_is)
    (case xgg_InvalidEvent => k_is)
    (case xnf_InvalidEvent => k_is)
    (case xi_InvalidEvent => k_is)
    (case xt_InvalidEvent => k_is)
    (case xl_InvalidEvent => k_is)
    (case xc_InvalidEvent => k_is)
    (case xki_InvalidEvent => k_is)
    (case xk_InvalidEvent => k_is)
    (case xe_InvalidEvent => k_is)
    (case xty_InvalidEvent => k_is)
    (case xh_InvalidEvent => k_is)
    (case xcl_InvalidEvent => k_is)
    (case xsp_InvalidEvent => k_is)
    (case xtk_InvalidEvent => k_is)
    (case xm_InvalidEvent => k_is)
    (case xL_InvalidRow => k_is)
    (case xsa_InvalidRow => k_is)
    (case xga_InvalidRow => k_is)
    (case xgg_InvalidRow => k_is)
    (case xnf_InvalidRow => k_is)
    (case xi_InvalidRow => k_is)
    (case xt_InvalidRow => k_is)
    (case xl_InvalidRow => k_is)
    (case xc_InvalidRow => k_is)
    (case xki_InvalidRow => k_is)
    (case xk_InvalidRow => k_is)
    (case xe_InvalidRow => k_is)
    (case xty_InvalidRow => k_is)
    (case xh_InvalidRow => k_is)
    (case xcl_InvalidRow => k_is)
    (case xsp_InvalidRow => k_is)
    (case xtk_InvalidRow => k_is)
    (case xm_InvalidRow => k_is)
    (case xL_InvalidLine => k_is)
    (case xsa_InvalidLine => k_is)
    (case xga_InvalidLine => k_is)
    (case xgg_InvalidLine => k_is)
    (case xnf_InvalidLine => k_is)
    (case xi_InvalidLine => k_is)
    (case xt_InvalidLine => k_is)
    (case xl_InvalidLine => k_is)
    (case xc_InvalidLine => k_is)
    (case xki_InvalidLine => k_is)
    (case xk_InvalidLine => k_is)
    (case xe_InvalidLine => k_is)
    (case xty_InvalidLine => k_is)
    (case xh_InvalidLine => k_is)
    (case xcl_InvalidLine => k_is)
    (case xsp_InvalidLine => k_is)
    (case xtk_InvalidLine => k_is)
    (case xm_InvalidLine => k_is)
    (case xL_NothingLeft => k_is)
    (case xsa_NothingLeft => k_is)
    (case xga_NothingLeft => k_is)
    (case xgg_NothingLeft => k_is)
    (case xnf_NothingLeft => k_is)
    (case xi_NothingLeft => k_is)
    (case xt_NothingLeft => k_is)
    (case xl_NothingLeft => k_is)
    (case xc_NothingLeft => k_is)
    (case xki_NothingLeft => k_is)
    (case xk_NothingLeft => k_is)
    (case xe_NothingLeft => k_is)
    (case xty_NothingLeft => k_is)
    (case xh_NothingLeft => k_is)
    (case xcl_NothingLeft => k_is)
    (case xsp_NothingLeft => k_is)
    (case xtk_NothingLeft => k_is)
    (case xm_NothingLeft => k_is)
    (case xL_KnownName => k_is)
    (case xsa_KnownName => k_is)
    (case xga_KnownName => k_is)
    (case xgg_KnownName => k_is)
    (case xnf_KnownName => k_is)
    (case xi_KnownName => k_is)
    (case xt_KnownName => k_is)
    (case xl_KnownName => k_is)
    (case xc_KnownName => k_is)
    (case xki_KnownName => k_is)
    (case xk_KnownName => k_is)
    (case xe_KnownName => k_is)
    (case xty_KnownName => k_is)
    (case xh_KnownName => k_is)
    (case xcl_KnownName => k_is)
    (case xsp_KnownName => k_is)
    (case xtk_KnownName => k_is)
    (case xm_KnownName => k_is)
    (case xL_UnknownName => k_is)
    (case xsa_UnknownName => k_is)
    (case xga_UnknownName => k_is)
    (case xgg_UnknownName => k_is)
    (case xnf_UnknownName => k_is)
    (case xi_UnknownName => k_is)
    (case xt_UnknownName => k_is)
    (case xl_UnknownName => k_is)
    (case xc_UnknownName => k_is)
    (case xki_UnknownName => k_is)
    (case xk_UnknownName => k_is)
    (case xe_UnknownName => k_is)
    (case xty_UnknownName => k_is)
    (case xh_UnknownName => k_is)
    (case xcl_UnknownName => k_is)
    (case xsp_UnknownName => k_is)
    (case xtk_UnknownName => k_is)
    (case xm_UnknownName => k_is)
    (case xL_Closed => k_is)
    (case xsa_Closed => k_is)
    (case xga_Closed => k_is)
    (case xgg_Closed => k_is)
    (case xnf_Closed => k_is)
    (case xi_Closed => k_is)
    (case xt_Closed => k_is)
    (case xl_Closed => k_is)
    (case xc_Closed => k_is)
    (case xki_Closed => k_is)
    (case xk_Closed => k_is)
    (case xe_Closed => k_is)
    (case xty_Closed => k_is)
    (case xh_Closed => k_is)
    (case xcl_Closed => k_is)
    (case xsp_Closed => k_is)
    (case xtk_Closed => k_is)
    (case xm_Closed => k_is)
    (case xL_Opened => k_is)
    (case xsa_Opened => k_is)
    (case xga_Opened => k_is)
    (case xgg_Opened => k_is)
    (case xnf_Opened => k_is)
    (case xi_Opened => k_is)
    (case xt_Opened => k_is)
    (case xl_Opened => k_is)
    (case xc_Opened => k_is)
    (case xki_Opened => k_is)
    (case xk_Opened => k_is)
    (case xe_Opened => k_is)
    (case xty_Opened => k_is)
    (case xh_Opened => k_is)
    (case xcl_Opened => k_is)
    (case xsp_Opened => k_is)
    (case xtk_Opened => k_is)
    (case xm_Opened => k_is)
    (case xL_InvalidNumber => k_is)
    (case xsa_InvalidNumber => k_is)
    (case xga_InvalidNumber => k_is)
    (case xgg_InvalidNumber => k_is)
    (case xnf_InvalidNumber => k_is)
    (case xi_InvalidNumber => k_is)
    (case xt_InvalidNumber => k_is)
    (case xl_InvalidNumber => k_is)
    (case xc_InvalidNumber => k_is)
    (case xki_InvalidNumber => k_is)
    (case xk_InvalidNumber => k_is)
    (case xe_InvalidNumber => k_is)
    (case xty_InvalidNumber => k_is)
    (case xh_InvalidNumber => k_is)
    (case xcl_InvalidNumber => k_is)
    (case xsp_InvalidNumber => k_is)
    (case xtk_InvalidNumber => k_is)
    (case xm_InvalidNumber => k_is)
    (case xL_InvalidRule => k_is)
    (case xsa_InvalidRule => k_is)
    (case xga_InvalidRule => k_is)
    (case xgg_InvalidRule => k_is)
    (case xnf_InvalidRule => k_is)
    (case xi_InvalidRule => k_is)
    (case xt_InvalidRule => k_is)
    (case xl_InvalidRule => k_is)
    (case xc_InvalidRule => k_is)
    (case xki_InvalidRule => k_is)
    (case xk_InvalidRule => k_is)
    (case xe_InvalidRule => k_is)
    (case xty_InvalidRule => k_is)
    (case xh_InvalidRule => k_is)
    (case xcl_InvalidRule => k_is)
    (case xsp_InvalidRule => k_is)
    (case xtk_InvalidRule => k_is)
    (case xm_InvalidRule => k_is)
    (case xL_InvalidDisk => k_is)
    (case xsa_InvalidDisk => k_is)
    (case xga_InvalidDisk => k_is)
    (case xgg_InvalidDisk => k_is)
    (case xnf_InvalidDisk => k_is)
    (case xi_InvalidDisk => k_is)
    (case xt_InvalidDisk => k_is)
    (case xl_InvalidDisk => k_is)
    (case xc_InvalidDisk => k_is)
    (case xki_InvalidDisk => k_is)
    (case xk_InvalidDisk => k_is)
    (case xe_InvalidDisk => k_is)
    (case xty_InvalidDisk => k_is)
    (case xh_InvalidDisk => k_is)
    (case xcl_InvalidDisk => k_is)
    (case xsp_InvalidDisk => k_is)
    (case xtk_InvalidDisk => k_is)
    (case xm_InvalidDisk => k_is)
    (case xL_InvalidName => k_is)
    (case xsa_InvalidName => k_is)
    (case xga_InvalidName => k_is)
    (case xgg_InvalidName => k_is)
    (case xnf_InvalidName => k_is)
    (case xi_InvalidName => k_is)
    (case xt_InvalidName => k_is)
    (case xl_InvalidName => k_is)
    (case xc_InvalidName => k_is)
    (case xki_InvalidName => k_is)
    (case xk_InvalidName => k_is)
    (case xe_InvalidName => k_is)
    (case xty_InvalidName => k_is)
    (case xh_InvalidName => k_is)
    (case xcl_InvalidName => k_is)
    (case xsp_InvalidName => k_is)
    (case xtk_InvalidName => k_is)
    (case xm_InvalidName => k_is)
    (case xL_InvalidRuns => k_is)
    (case xsa_InvalidRuns => k_is)
    (case xga_InvalidRuns => k_is)
    (case xgg_InvalidRuns => k_is)
    (case xnf_InvalidRuns => k_is)
    (case xi_InvalidRuns => k_is)
    (case xt_InvalidRuns => k_is)
    (case xl_InvalidRuns => k_is)
    (case xc_InvalidRuns => k_is)
    (case xki_InvalidRuns => k_is)
    (case xk_InvalidRuns => k_is)
    (case xe_InvalidRuns => k_is)
    (case xty_InvalidRuns => k_is)
    (case xh_InvalidRuns => k_is)
    (case xcl_InvalidRuns => k_is)
    (case xsp_InvalidRuns => k_is)
    (case xtk_InvalidRuns => k_is)
    (case xm_InvalidRuns => k_is)
    (case xL_InvalidBlock => k_is)
    (case xsa_InvalidBlock => k_is)
    (case xga_InvalidBlock => k_is)
    (case xgg_InvalidBlock => k_is)
    (case xnf_InvalidBlock => k_is)
    (case xi_InvalidBlock => k_is)
    (case xt_InvalidBlock => k_is)
    (case xl_InvalidBlock => k_is)
    (case xc_InvalidBlock => k_is)
    (case xki_InvalidBlock => k_is)
    (case xk_InvalidBlock => k_is)
    (case xe_InvalidBlock => k_is)
    (case xty_InvalidBlock => k_is)
    (case xh_InvalidBlock => k_is)
    (case xcl_InvalidBlock => k_is)
    (case xsp_InvalidBlock => k_is)
    (case xtk_InvalidBlock => k_is)
    (case xm_InvalidBlock => k_is)
    (case xL_InvalidText => k_is)
    (case xsa_InvalidText => k_is)
    (case xga_InvalidText => k_is)
    (case xgg_InvalidText => k_is)
    (case xnf_InvalidText => k_is)
    (case xi_InvalidText => k_is)
    (case xt_InvalidText => k_is)
    (case xl_InvalidText => k_is)
    (case xc_InvalidText => k_is)
    (case xki_InvalidText => k_is)
    (case xk_InvalidText => k_is)
    (case xe_InvalidText => k_is)
    (case xty_InvalidText => k_is)
    (case xh_InvalidText => k_is)
    (case xcl_InvalidText => k_is)
    (case xsp_InvalidText => k_is)
    (case xtk_InvalidText => k_is)
    (case xm_InvalidText => k_is)
    (case xL_InvalidBook => k_is)
    (case xsa_InvalidBook => k_is)
    (case xga_InvalidBook => k_is)
    (case xgg_InvalidBook => k_is)
    (case xnf_InvalidBook => k_is)
    (case xi_InvalidBook => k_is)
    (case xt_InvalidBook => k_is)
    (case xl_InvalidBook => k_is)
    (case xc_InvalidBook => k_is)
    (case xki_InvalidBook => k_is)
    (case xk_InvalidBook => k_is)
    (case xe_InvalidBook => k_is)
    (case xty_InvalidBook => k_is)
    (case xh_InvalidBook => k_is)
    (case xcl_InvalidBook => k_is)
    (case xsp_InvalidBook => k_is)
    (case xtk_InvalidBook => k_is)
    (case xm_InvalidBook => k_is)
    (case yk_TooMany_ValueError => first | rfl | k_is)
    (case yk_Refused_ValueError => first | rfl | k_is)
    (case yk_NotDone_ValueError => first | rfl | k_is)
    (case yk_NotClosed_ValueError => first | rfl | k_is)
    (case yk_Refusable_ValueError => first | rfl | k_is)
    (case yk_InvalidChoice_ValueError => first | rfl | k_is)
    (case yk_UnknownSet_ValueError => first | rfl | k_is)
    (case yk_InvalidCommand_ValueError => first | rfl | k_is)
    (case yk_InvalidSizes_ValueError => first | rfl | k_is)
    (case yk_InvalidState_ValueError => first | rfl | k_is)
    (case yk_InvalidTable_ValueError => first | rfl | k_is)
    (case yk_InvalidEvent_ValueError => first | rfl | k_is)
    (case yk_InvalidRow_ValueError => first | rfl | k_is)
    (case yk_InvalidLine_ValueError => first | rfl | k_is)
    (case yk_NothingLeft_ValueError => first | rfl | k_is)
    (case yk_KnownName_ValueError => first | rfl | k_is)
    (case yk_UnknownName_ValueError => first | rfl | k_is)
    (case yk_Closed_ValueError => first | rfl | k_is)
    (case yk_Opened_ValueError => first | rfl | k_is)
    (case yk_InvalidNumber_ValueError => first | rfl | k_is)
    (case yk_InvalidRule_ValueError => first | rfl | k_is)
    (case yk_InvalidDisk_ValueError => first | rfl | k_is)
    (case yk_InvalidName_ValueError => first | rfl | k_is)
    (case yk_InvalidRuns_ValueError => first | rfl | k_is)
    (case yk_InvalidBlock_ValueError => first | rfl | k_is)
    (case yk_InvalidText_ValueError => first | rfl | k_is)
    (case yk_InvalidBook_ValueError => first | rfl | k_is)
    (case yk_TooMany_TooMany => first | rfl | k_is)
    (case yk_Refused_TooMany => first | rfl | k_is)
    (case yk_NotDone_TooMany => first | rfl | k_is)
    (case yk_NotClosed_TooMany => first | rfl | k_is)
    (case yk_Refusable_TooMany => first | rfl | k_is)
    (case yk_InvalidChoice_TooMany => first | rfl | k_is)
    (case yk_UnknownSet_TooMany => first | rfl | k_is)
    (case yk_InvalidCommand_TooMany => first | rfl | k_is)
    (case yk_InvalidSizes_TooMany => first | rfl | k_is)
    (case yk_InvalidState_TooMany => first | rfl | k_is)
    (case yk_InvalidTable_TooMany => first | rfl | k_is)
    (case yk_InvalidEvent_TooMany => first | rfl | k_is)
    (case yk_InvalidRow_TooMany => first | rfl | k_is)
    (case yk_InvalidLine_TooMany => first | rfl | k_is)
    (case yk_NothingLeft_TooMany => first | rfl | k_is)
    (case yk_KnownName_TooMany => first | rfl | k_is)
    (case yk_UnknownName_TooMany => first | rfl | k_is)
    (case yk_Closed_TooMany => first | rfl | k_is)
    (case yk_Opened_TooMany => first | rfl | k_is)
    (case yk_InvalidNumber_TooMany => first | rfl | k_is)
    (case yk_InvalidRule_TooMany => first | rfl | k_is)
    (case yk_InvalidDisk_TooMany => first | rfl | k_is)
    (case yk_InvalidName_TooMany => first | rfl | k_is)
    (case yk_InvalidRuns_TooMany => first | rfl | k_is)
    (case yk_InvalidBlock_TooMany => first | rfl | k_is)
    (case yk_InvalidText_TooMany => first | rfl | k_is)
    (case yk_InvalidBook_TooMany => first | rfl | k_is)
    (case yk_TooMany_Refused => first | rfl | k_is)
    (case yk_Refused_Refused => first | rfl | k_is)
    (case yk_NotDone_Refused => first | rfl | k_is)
    (case yk_NotClosed_Refused => first | rfl | k_is)
    (case yk_Refusable_Refused => first | rfl | k_is)
    (case yk_InvalidChoice_Refused => first | rfl | k_is)
    (case yk_UnknownSet_Refused => first | rfl | k_is)
    (case yk_InvalidCommand_Refused => first | rfl | k_is)
    (case yk_InvalidSizes_Refused => first | rfl | k_is)
    (case yk_InvalidState_Refused => first | rfl | k_is)
    (case yk_InvalidTable_Refused => first | rfl | k_is)
    (case yk_InvalidEvent_Refused => first | rfl | k_is)
    (case yk_InvalidRow_Refused => first | rfl | k_is)
    (case yk_InvalidLine_Refused => first | rfl | k_is)
    (case yk_NothingLeft_Refused => first | rfl | k_is)
    (case yk_KnownName_Refused => first | rfl | k_is)
    (case yk_UnknownName_Refused => first | rfl | k_is)
    (case yk_Closed_Refused => first | rfl | k_is)
    (case yk_Opened_Refused => first | rfl | k_is)
    (case yk_InvalidNumber_Refused => first | rfl | k_is)
    (case yk_InvalidRule_Refused => first | rfl | k_is)
    (case yk_InvalidDisk_Refused => first | rfl | k_is)
    (case yk_InvalidName_Refused => first | rfl | k_is)
    (case yk_InvalidRuns_Refused => first | rfl | k_is)
    (case yk_InvalidBlock_Refused => first | rfl | k_is)
    (case yk_InvalidText_Refused => first | rfl | k_is)
    (case yk_InvalidBook_Refused => first | rfl | k_is)
    (case yk_TooMany_NotDone => first | rfl | k_is)
    (case yk_Refused_NotDone => first | rfl | k_is)
    (case yk_NotDone_NotDone => first | rfl | k_is)
    (case yk_NotClosed_NotDone => first | rfl | k_is)
    (case yk_Refusable_NotDone => first | rfl | k_is)
    (case yk_InvalidChoice_NotDone => first | rfl | k_is)
    (case yk_UnknownSet_NotDone => first | rfl | k_is)
    (case yk_InvalidCommand_NotDone => first | rfl | k_is)
    (case yk_InvalidSizes_NotDone => first | rfl | k_is)
    (case yk_InvalidState_NotDone => first | rfl | k_is)
    (case yk_InvalidTable_NotDone => first | rfl | k_is)
    (case yk_InvalidEvent_NotDone => first | rfl | k_is)
    (case yk_InvalidRow_NotDone => first | rfl | k_is)
    (case yk_InvalidLine_NotDone => first | rfl | k_is)
    (case yk_NothingLeft_NotDone => first | rfl | k_is)
    (case yk_KnownName_NotDone => first | rfl | k_is)
    (case yk_UnknownName_NotDone => first | rfl | k_is)
    (case yk_Closed_NotDone => first | rfl | k_is)
    (case yk_Opened_NotDone => first | rfl | k_is)
    (case yk_InvalidNumber_NotDone => first | rfl | k_is)
    (case yk_InvalidRule_NotDone => first | rfl | k_is)
    (case yk_InvalidDisk_NotDone => first | rfl | k_is)
    (case yk_InvalidName_NotDone => first | rfl | k_is)
    (case yk_InvalidRuns_NotDone => first | rfl | k_is)
    (case yk_InvalidBlock_NotDone => first | rfl | k_is)
    (case yk_InvalidText_NotDone => first | rfl | k_is)
    (case yk_InvalidBook_NotDone => first | rfl | k_is)
    (case yk_TooMany_Refusable => first | rfl | k_is)
    (case yk_Refused_Refusable => first | rfl | k_is)
    (case yk_NotDone_Refusable => first | rfl | k_is)
    (case yk_NotClosed_Refusable => first | rfl | k_is)
    (case yk_Refusable_Refusable => first | rfl | k_is)
    (case yk_InvalidChoice_Refusable => first | rfl | k_is)
    (case yk_UnknownSet_Refusable => first | rfl | k_is)
    (case yk_InvalidCommand_Refusable => first | rfl | k_is)
    (case yk_InvalidSizes_Refusable => first | rfl | k_is)
    (case yk_InvalidState_Refusable => first | rfl | k_is)
    (case yk_InvalidTable_Refusable => first | rfl | k_is)
    (case yk_InvalidEvent_Refusable => first | rfl | k_is)
    (case yk_InvalidRow_Refusable => first | rfl | k_is)
    (case yk_InvalidLine_Refusable => first | rfl | k_is)
    (case yk_NothingLeft_Refusable => first | rfl | k_is)
    (case yk_KnownName_Refusable => first | rfl | k_is)
    (case yk_UnknownName_Refusable => first | rfl | k_is)
    (case yk_Closed_Refusable => first | rfl | k_is)
    (case yk_Opened_Refusable => first | rfl | k_is)
    (case yk_InvalidNumber_Refusable => first | rfl | k_is)
    (case yk_InvalidRule_Refusable => first | rfl | k_is)
    (case yk_InvalidDisk_Refusable => first | rfl | k_is)
    (case yk_InvalidName_Refusable => first | rfl | k_is)
    (case yk_InvalidRuns_Refusable => first | rfl | k_is)
    (case yk_InvalidBlock_Refusable => first | rfl | k_is)
    (case yk_InvalidText_Refusable => first | rfl | k_is)
    (case yk_InvalidBook_Refusable => first | rfl | k_is)
    (case yk_TooMany_InvalidChoice => first | rfl | k_is)
    (case yk_Refused_InvalidChoice => first | rfl | k_is)
    (case yk_NotDone_InvalidChoice => first | rfl | k_is)
    (case yk_NotClosed_InvalidChoice => first | rfl | k_is)
    (case yk_Refusable_InvalidChoice => first | rfl | k_is)
    (case yk_InvalidChoice_InvalidChoice => first | rfl | k_is)
    (case yk_UnknownSet_InvalidChoice => first | rfl | k_is)
    (case yk_InvalidCommand_InvalidChoice => first | rfl | k_is)
    (case yk_InvalidSizes_InvalidChoice => first | rfl | k_is)
    (case yk_InvalidState_InvalidChoice => first | rfl | k_is)
    (case yk_InvalidTable_InvalidChoice => first | rfl | k_is)
    (case yk_InvalidEvent_InvalidChoice => first | rfl | k_is)
    (case yk_InvalidRow_InvalidChoice => first | rfl | k_is)
    (case yk_InvalidLine_InvalidChoice => first | rfl | k_is)
    (case yk_NothingLeft_InvalidChoice => first | rfl | k_is)
    (case yk_KnownName_InvalidChoice => first | rfl | k_is)
    (case yk_UnknownName_InvalidChoice => first | rfl | k_is)
    (case yk_Closed_InvalidChoice => first | rfl | k_is)
    (case yk_Opened_InvalidChoice => first | rfl | k_is)
    (case yk_InvalidNumber_InvalidChoice => first | rfl | k_is)
    (case yk_InvalidRule_InvalidChoice => first | rfl | k_is)
    (case yk_InvalidDisk_InvalidChoice => first | rfl | k_is)
    (case yk_InvalidName_InvalidChoice => first | rfl | k_is)
    (case yk_InvalidRuns_InvalidChoice => first | rfl | k_is)
    (case yk_InvalidBlock_InvalidChoice => first | rfl | k_is)
    (case yk_InvalidText_InvalidChoice => first | rfl | k_is)
    (case yk_InvalidBook_InvalidChoice => first | rfl | k_is)
    (case yk_TooMany_UnknownSet => first | rfl | k_is)
    (case yk_Refused_UnknownSet => first | rfl | k_is)
    (case yk_NotDone_UnknownSet => first | rfl | k_is)
    (case yk_NotClosed_UnknownSet => first | rfl | k_is)
    (case yk_Refusable_UnknownSet => first | rfl | k_is)
    (case yk_InvalidChoice_UnknownSet => first | rfl | k_is)
    (case yk_UnknownSet_UnknownSet => first | rfl | k_is)
    (case yk_InvalidCommand_UnknownSet => first | rfl | k_is)
    (case yk_InvalidSizes_UnknownSet => first | rfl | k_is)
    (case yk_InvalidState_UnknownSet => first | rfl | k_is)
    (case yk_InvalidTable_UnknownSet => first | rfl | k_is)
    (case yk_InvalidEvent_UnknownSet => first | rfl | k_is)
    (case yk_InvalidRow_UnknownSet => first | rfl | k_is)
    (case yk_InvalidLine_UnknownSet => first | rfl | k_is)
    (case yk_NothingLeft_UnknownSet => first | rfl | k_is)
    (case yk_KnownName_UnknownSet => first | rfl | k_is)
    (case yk_UnknownName_UnknownSet => first | rfl | k_is)
    (case yk_Closed_UnknownSet => first | rfl | k_is)
    (case yk_Opened_UnknownSet => first | rfl | k_is)
    (case yk_InvalidNumber_UnknownSet => first | rfl | k_is)
    (case yk_InvalidRule_UnknownSet => first | rfl | k_is)
    (case yk_InvalidDisk_UnknownSet => first | rfl | k_is)
    (case yk_InvalidName_UnknownSet => first | rfl | k_is)
    (case yk_InvalidRuns_UnknownSet => first | rfl | k_is)
    (case yk_InvalidBlock_UnknownSet => first | rfl | k_is)
    (case yk_InvalidText_UnknownSet => first | rfl | k_is)
    (case yk_InvalidBook_UnknownSet => first | rfl | k_is)
    (case yk_TooMany_InvalidState => first | rfl | k_is)
    (case yk_Refused_InvalidState => first | rfl | k_is)
    (case yk_NotDone_InvalidState => first | rfl | k_is)
    (case yk_NotClosed_InvalidState => first | rfl | k_is)
    (case yk_Refusable_InvalidState => first | rfl | k_is)
    (case yk_InvalidChoice_InvalidState => first | rfl | k_is)
    (case yk_UnknownSet_InvalidState => first | rfl | k_is)
    (case yk_InvalidCommand_InvalidState => first | rfl | k_is)
    (case yk_InvalidSizes_InvalidState => first | rfl | k_is)
    (case yk_InvalidState_InvalidState => first | rfl | k_is)
    (case yk_InvalidTable_InvalidState => first | rfl | k_is)
    (case yk_InvalidEvent_InvalidState => first | rfl | k_is)
    (case yk_InvalidRow_InvalidState => first | rfl | k_is)
    (case yk_InvalidLine_InvalidState => first | rfl | k_is)
    (case yk_NothingLeft_InvalidState => first | rfl | k_is)
    (case yk_KnownName_InvalidState => first | rfl | k_is)
    (case yk_UnknownName_InvalidState => first | rfl | k_is)
    (case yk_Closed_InvalidState => first | rfl | k_is)
    (case yk_Opened_InvalidState => first | rfl | k_is)
    (case yk_InvalidNumber_InvalidState => first | rfl | k_is)
    (case yk_InvalidRule_InvalidState => first | rfl | k_is)
    (case yk_InvalidDisk_InvalidState => first | rfl | k_is)
    (case yk_InvalidName_InvalidState => first | rfl | k_is)
    (case yk_InvalidRuns_InvalidState => first | rfl | k_is)
    (case yk_InvalidBlock_InvalidState => first | rfl | k_is)
    (case yk_InvalidText_InvalidState => first | rfl | k_is)
    (case yk_InvalidBook_InvalidState => first | rfl | k_is)
    (case yk_TooMany_InvalidTable => first | rfl | k_is)
    (case yk_Refused_InvalidTable => first | rfl | k_is)
    (case yk_NotDone_InvalidTable => first | rfl | k_is)
    (case yk_NotClosed_InvalidTable => first | rfl | k_is)
    (case yk_Refusable_InvalidTable => first | rfl | k_is)
    (case yk_InvalidChoice_InvalidTable => first | rfl | k_is)
    (case yk_UnknownSet_InvalidTable => first | rfl | k_is)
    (case yk_InvalidCommand_InvalidTable => first | rfl | k_is)
    (case yk_InvalidSizes_InvalidTable => first | rfl | k_is)
    (case yk_InvalidState_InvalidTable => first | rfl | k_is)
    (case yk_InvalidTable_InvalidTable => first | rfl | k_is)
    (case yk_InvalidEvent_InvalidTable => first | rfl | k_is)
    (case yk_InvalidRow_InvalidTable => first | rfl | k_is)
    (case yk_InvalidLine_InvalidTable => first | rfl | k_is)
    (case yk_NothingLeft_InvalidTable => first | rfl | k_is)
    (case yk_KnownName_InvalidTable => first | rfl | k_is)
    (case yk_UnknownName_InvalidTable => first | rfl | k_is)
    (case yk_Closed_InvalidTable => first | rfl | k_is)
    (case yk_Opened_InvalidTable => first | rfl | k_is)
    (case yk_InvalidNumber_InvalidTable => first | rfl | k_is)
    (case yk_InvalidRule_InvalidTable => first | rfl | k_is)
    (case yk_InvalidDisk_InvalidTable => first | rfl | k_is)
    (case yk_InvalidName_InvalidTable => first | rfl | k_is)
    (case yk_InvalidRuns_InvalidTable => first | rfl | k_is)
    (case yk_InvalidBlock_InvalidTable => first | rfl | k_is)
    (case yk_InvalidText_InvalidTable => first | rfl | k_is)
    (case yk_InvalidBook_InvalidTable => first | rfl | k_is)
    (case yk_TooMany_NotClosed => first | rfl | k_is)
    (case yk_Refused_NotClosed => first | rfl | k_is)
    (case yk_NotDone_NotClosed => first | rfl | k_is)
    (case yk_NotClosed_NotClosed => first | rfl | k_is)
    (case yk_Refusable_NotClosed => first | rfl | k_is)
    (case yk_InvalidChoice_NotClosed => first | rfl | k_is)
    (case yk_UnknownSet_NotClosed => first | rfl | k_is)
    (case yk_InvalidCommand_NotClosed => first | rfl | k_is)
    (case yk_InvalidSizes_NotClosed => first | rfl | k_is)
    (case yk_InvalidState_NotClosed => first | rfl | k_is)
    (case yk_InvalidTable_NotClosed => first | rfl | k_is)
    (case yk_InvalidEvent_NotClosed => first | rfl | k_is)
    (case yk_InvalidRow_NotClosed => first | rfl | k_is)
    (case yk_InvalidLine_NotClosed => first | rfl | k_is)
    (case yk_NothingLeft_NotClosed => first | rfl | k_is)
    (case yk_KnownName_NotClosed => first | rfl | k_is)
    (case yk_UnknownName_NotClosed => first | rfl | k_is)
    (case yk_Closed_NotClosed => first | rfl | k_is)
    (case yk_Opened_NotClosed => first | rfl | k_is)
    (case yk_InvalidNumber_NotClosed => first | rfl | k_is)
    (case yk_InvalidRule_NotClosed => first | rfl | k_is)
    (case yk_InvalidDisk_NotClosed => first | rfl | k_is)
    (case yk_InvalidName_NotClosed => first | rfl | k_is)
    (case yk_InvalidRuns_NotClosed => first | rfl | k_is)
    (case yk_InvalidBlock_NotClosed => first | rfl | k_is)
    (case yk_InvalidText_NotClosed => first | rfl | k_is)
    (case yk_InvalidBook_NotClosed => first | rfl | k_is)
    (case yk_TooMany_NothingLeft => first | rfl | k_is)
    (case yk_Refused_NothingLeft => first | rfl | k_is)
    (case yk_NotDone_NothingLeft => first | rfl | k_is)
    (case yk_NotClosed_NothingLeft => first | rfl | k_is)
    (case yk_Refusable_NothingLeft => first | rfl | k_is)
    (case yk_InvalidChoice_NothingLeft => first | rfl | k_is)
    (case yk_UnknownSet_NothingLeft => first | rfl | k_is)
    (case yk_InvalidCommand_NothingLeft => first | rfl | k_is)
    (case yk_InvalidSizes_NothingLeft => first | rfl | k_is)
    (case yk_InvalidState_NothingLeft => first | rfl | k_is)
    (case yk_InvalidTable_NothingLeft => first | rfl | k_is)
    (case yk_InvalidEvent_NothingLeft => first | rfl | k_is)
    (case yk_InvalidRow_NothingLeft => first | rfl | k_is)
    (case yk_InvalidLine_NothingLeft => first | rfl | k_is)
    (case yk_NothingLeft_NothingLeft => first | rfl | k_is)
    (case yk_KnownName_NothingLeft => first | rfl | k_is)
    (case yk_UnknownName_NothingLeft => first | rfl | k_is)
    (case yk_Closed_NothingLeft => first | rfl | k_is)
    (case yk_Opened_NothingLeft => first | rfl | k_is)
    (case yk_InvalidNumber_NothingLeft => first | rfl | k_is)
    (case yk_InvalidRule_NothingLeft => first | rfl | k_is)
    (case yk_InvalidDisk_NothingLeft => first | rfl | k_is)
    (case yk_InvalidName_NothingLeft => first | rfl | k_is)
    (case yk_InvalidRuns_NothingLeft => first | rfl | k_is)
    (case yk_InvalidBlock_NothingLeft => first | rfl | k_is)
    (case yk_InvalidText_NothingLeft => first | rfl | k_is)
    (case yk_InvalidBook_NothingLeft => first | rfl | k_is)
    (case yk_TooMany_InvalidCommand => first | rfl | k_is)
    (case yk_Refused_InvalidCommand => first | rfl | k_is)
    (case yk_NotDone_InvalidCommand => first | rfl | k_is)
    (case yk_NotClosed_InvalidCommand => first | rfl | k_is)
    (case yk_Refusable_InvalidCommand => first | rfl | k_is)
    (case yk_InvalidChoice_InvalidCommand => first | rfl | k_is)
    (case yk_UnknownSet_InvalidCommand => first | rfl | k_is)
    (case yk_InvalidCommand_InvalidCommand => first | rfl | k_is)
    (case yk_InvalidSizes_InvalidCommand => first | rfl | k_is)
    (case yk_InvalidState_InvalidCommand => first | rfl | k_is)
    (case yk_InvalidTable_InvalidCommand => first | rfl | k_is)
    (case yk_InvalidEvent_InvalidCommand => first | rfl | k_is)
    (case yk_InvalidRow_InvalidCommand => first | rfl | k_is)
    (case yk_InvalidLine_InvalidCommand => first | rfl | k_is)
    (case yk_NothingLeft_InvalidCommand => first | rfl | k_is)
    (case yk_KnownName_InvalidCommand => first | rfl | k_is)
    (case yk_UnknownName_InvalidCommand => first | rfl | k_is)
    (case yk_Closed_InvalidCommand => first | rfl | k_is)
    (case yk_Opened_InvalidCommand => first | rfl | k_is)
    (case yk_InvalidNumber_InvalidCommand => first | rfl | k_is)
    (case yk_InvalidRule_InvalidCommand => first | rfl | k_is)
    (case yk_InvalidDisk_InvalidCommand => first | rfl | k_is)
    (case yk_InvalidName_InvalidCommand => first | rfl | k_is)
    (case yk_InvalidRuns_InvalidCommand => first | rfl | k_is)
    (case yk_InvalidBlock_InvalidCommand => first | rfl | k_is)
    (case yk_InvalidText_InvalidCommand => first | rfl | k_is)
    (case yk_InvalidBook_InvalidCommand => first | rfl | k_is)
    (case yk_TooMany_InvalidSizes => first | rfl | k_is)
    (case yk_Refused_InvalidSizes => first | rfl | k_is)
    (case yk_NotDone_InvalidSizes => first | rfl | k_is)
    (case yk_NotClosed_InvalidSizes => first | rfl | k_is)
    (case yk_Refusable_InvalidSizes => first | rfl | k_is)
    (case yk_InvalidChoice_InvalidSizes => first | rfl | k_is)
    (case yk_UnknownSet_InvalidSizes => first | rfl | k_is)
    (case yk_InvalidCommand_InvalidSizes => first | rfl | k_is)
    (case yk_InvalidSizes_InvalidSizes => first | rfl | k_is)
    (case yk_InvalidState_InvalidSizes => first | rfl | k_is)
    (case yk_InvalidTable_InvalidSizes => first | rfl | k_is)
    (case yk_InvalidEvent_InvalidSizes => first | rfl | k_is)
    (case yk_InvalidRow_InvalidSizes => first | rfl | k_is)
    (case yk_InvalidLine_InvalidSizes => first | rfl | k_is)
    (case yk_NothingLeft_InvalidSizes => first | rfl | k_is)
    (case yk_KnownName_InvalidSizes => first | rfl | k_is)
    (case yk_UnknownName_InvalidSizes => first | rfl | k_is)
    (case yk_Closed_InvalidSizes => first | rfl | k_is)
    (case yk_Opened_InvalidSizes => first | rfl | k_is)
    (case yk_InvalidNumber_InvalidSizes => first | rfl | k_is)
    (case yk_InvalidRule_InvalidSizes => first | rfl | k_is)
    (case yk_InvalidDisk_InvalidSizes => first | rfl | k_is)
    (case yk_InvalidName_InvalidSizes => first | rfl | k_is)
    (case yk_InvalidRuns_InvalidSizes => first | rfl | k_is)
    (case yk_InvalidBlock_InvalidSizes => first | rfl | k_is)
    (case yk_InvalidText_InvalidSizes => first | rfl | k_is)
    (case yk_InvalidBook_InvalidSizes => first | rfl | k_is)
    (case yk_TooMany_InvalidEvent => first | rfl | k_is)
    (case yk_Refused_InvalidEvent => first | rfl | k_is)
    (case yk_NotDone_InvalidEvent => first | rfl | k_is)
    (case yk_NotClosed_InvalidEvent => first | rfl | k_is)
    (case yk_Refusable_InvalidEvent => first | rfl | k_is)
    (case yk_InvalidChoice_InvalidEvent => first | rfl | k_is)
    (case yk_UnknownSet_InvalidEvent => first | rfl | k_is)
    (case yk_InvalidCommand_InvalidEvent => first | rfl | k_is)
    (case yk_InvalidSizes_InvalidEvent => first | rfl | k_is)
    (case yk_InvalidState_InvalidEvent => first | rfl | k_is)
    (case yk_InvalidTable_InvalidEvent => first | rfl | k_is)
    (case yk_InvalidEvent_InvalidEvent => first | rfl | k_is)
    (case yk_InvalidRow_InvalidEvent => first | rfl | k_is)
    (case yk_InvalidLine_InvalidEvent => first | rfl | k_is)
    (case yk_NothingLeft_InvalidEvent => first | rfl | k_is)
    (case yk_KnownName_InvalidEvent => first | rfl | k_is)
    (case yk_UnknownName_InvalidEvent => first | rfl | k_is)
    (case yk_Closed_InvalidEvent => first | rfl | k_is)
    (case yk_Opened_InvalidEvent => first | rfl | k_is)
    (case yk_InvalidNumber_InvalidEvent => first | rfl | k_is)
    (case yk_InvalidRule_InvalidEvent => first | rfl | k_is)
    (case yk_InvalidDisk_InvalidEvent => first | rfl | k_is)
    (case yk_InvalidName_InvalidEvent => first | rfl | k_is)
    (case yk_InvalidRuns_InvalidEvent => first | rfl | k_is)
    (case yk_InvalidBlock_InvalidEvent => first | rfl | k_is)
    (case yk_InvalidText_InvalidEvent => first | rfl | k_is)
    (case yk_InvalidBook_InvalidEvent => first | rfl | k_is)
    (case yk_TooMany_InvalidRow => first | rfl | k_is)
    (case yk_Refused_InvalidRow => first | rfl | k_is)
    (case yk_NotDone_InvalidRow => first | rfl | k_is)
    (case yk_NotClosed_InvalidRow => first | rfl | k_is)
    (case yk_Refusable_InvalidRow => first | rfl | k_is)
    (case yk_InvalidChoice_InvalidRow => first | rfl | k_is)
    (case yk_UnknownSet_InvalidRow => first | rfl | k_is)
    (case yk_InvalidCommand_InvalidRow => first | rfl | k_is)
    (case yk_InvalidSizes_InvalidRow => first | rfl | k_is)
    (case yk_InvalidState_InvalidRow => first | rfl | k_is)
    (case yk_InvalidTable_InvalidRow => first | rfl | k_is)
    (case yk_InvalidEvent_InvalidRow => first | rfl | k_is)
    (case yk_InvalidRow_InvalidRow => first | rfl | k_is)
    (case yk_InvalidLine_InvalidRow => first | rfl | k_is)
    (case yk_NothingLeft_InvalidRow => first | rfl | k_is)
    (case yk_KnownName_InvalidRow => first | rfl | k_is)
    (case yk_UnknownName_InvalidRow => first | rfl | k_is)
    (case yk_Closed_InvalidRow => first | rfl | k_is)
    (case yk_Opened_InvalidRow => first | rfl | k_is)
    (case yk_InvalidNumber_InvalidRow => first | rfl | k_is)
    (case yk_InvalidRule_InvalidRow => first | rfl | k_is)
    (case yk_InvalidDisk_InvalidRow => first | rfl | k_is)
    (case yk_InvalidName_InvalidRow => first | rfl | k_is)
    (case yk_InvalidRuns_InvalidRow => first | rfl | k_is)
    (case yk_InvalidBlock_InvalidRow => first | rfl | k_is)
    (case yk_InvalidText_InvalidRow => first | rfl | k_is)
    (case yk_InvalidBook_InvalidRow => first | rfl | k_is)
    (case yk_TooMany_InvalidLine => first | rfl | k_is)
    (case yk_Refused_InvalidLine => first | rfl | k_is)
    (case yk_NotDone_InvalidLine => first | rfl | k_is)
    (case yk_NotClosed_InvalidLine => first | rfl | k_is)
    (case yk_Refusable_InvalidLine => first | rfl | k_is)
    (case yk_InvalidChoice_InvalidLine => first | rfl | k_is)
    (case yk_UnknownSet_InvalidLine => first | rfl | k_is)
    (case yk_InvalidCommand_InvalidLine => first | rfl | k_is)
    (case yk_InvalidSizes_InvalidLine => first | rfl | k_is)
    (case yk_InvalidState_InvalidLine => first | rfl | k_is)
    (case yk_InvalidTable_InvalidLine => first | rfl | k_is)
    (case yk_InvalidEvent_InvalidLine => first | rfl | k_is)
    (case yk_InvalidRow_InvalidLine => first | rfl | k_is)
    (case yk_InvalidLine_InvalidLine => first | rfl | k_is)
    (case yk_NothingLeft_InvalidLine => first | rfl | k_is)
    (case yk_KnownName_InvalidLine => first | rfl | k_is)
    (case yk_UnknownName_InvalidLine => first | rfl | k_is)
    (case yk_Closed_InvalidLine => first | rfl | k_is)
    (case yk_Opened_InvalidLine => first | rfl | k_is)
    (case yk_InvalidNumber_InvalidLine => first | rfl | k_is)
    (case yk_InvalidRule_InvalidLine => first | rfl | k_is)
    (case yk_InvalidDisk_InvalidLine => first | rfl | k_is)
    (case yk_InvalidName_InvalidLine => first | rfl | k_is)
    (case yk_InvalidRuns_InvalidLine => first | rfl | k_is)
    (case yk_InvalidBlock_InvalidLine => first | rfl | k_is)
    (case yk_InvalidText_InvalidLine => first | rfl | k_is)
    (case yk_InvalidBook_InvalidLine => first | rfl | k_is)
    (case yk_TooMany_UnknownName => first | rfl | k_is)
    (case yk_Refused_UnknownName => first | rfl | k_is)
    (case yk_NotDone_UnknownName => first | rfl | k_is)
    (case yk_NotClosed_UnknownName => first | rfl | k_is)
    (case yk_Refusable_UnknownName => first | rfl | k_is)
    (case yk_InvalidChoice_UnknownName => first | rfl | k_is)
    (case yk_UnknownSet_UnknownName => first | rfl | k_is)
    (case yk_InvalidCommand_UnknownName => first | rfl | k_is)
    (case yk_InvalidSizes_UnknownName => first | rfl | k_is)
    (case yk_InvalidState_UnknownName => first | rfl | k_is)
    (case yk_InvalidTable_UnknownName => first | rfl | k_is)
    (case yk_InvalidEvent_UnknownName => first | rfl | k_is)
    (case yk_InvalidRow_UnknownName => first | rfl | k_is)
    (case yk_InvalidLine_UnknownName => first | rfl | k_is)
    (case yk_NothingLeft_UnknownName => first | rfl | k_is)
    (case yk_KnownName_UnknownName => first | rfl | k_is)
    (case yk_UnknownName_UnknownName => first | rfl | k_is)
    (case yk_Closed_UnknownName => first | rfl | k_is)
    (case yk_Opened_UnknownName => first | rfl | k_is)
    (case yk_InvalidNumber_UnknownName => first | rfl | k_is)
    (case yk_InvalidRule_UnknownName => first | rfl | k_is)
    (case yk_InvalidDisk_UnknownName => first | rfl | k_is)
    (case yk_InvalidName_UnknownName => first | rfl | k_is)
    (case yk_InvalidRuns_UnknownName => first | rfl | k_is)
    (case yk_InvalidBlock_UnknownName => first | rfl | k_is)
    (case yk_InvalidText_UnknownName => first | rfl | k_is)
    (case yk_InvalidBook_UnknownName => first | rfl | k_is)
    (case yk_TooMany_Closed => first | rfl | k_is)
    (case yk_Refused_Closed => first | rfl | k_is)
    (case yk_NotDone_Closed => first | rfl | k_is)
    (case yk_NotClosed_Closed => first | rfl | k_is)
    (case yk_Refusable_Closed => first | rfl | k_is)
    (case yk_InvalidChoice_Closed => first | rfl | k_is)
    (case yk_UnknownSet_Closed => first | rfl | k_is)
    (case yk_InvalidCommand_Closed => first | rfl | k_is)
    (case yk_InvalidSizes_Closed => first | rfl | k_is)
    (case yk_InvalidState_Closed => first | rfl | k_is)
    (case yk_InvalidTable_Closed => first | rfl | k_is)
    (case yk_InvalidEvent_Closed => first | rfl | k_is)
    (case yk_InvalidRow_Closed => first | rfl | k_is)
    (case yk_InvalidLine_Closed => first | rfl | k_is)
    (case yk_NothingLeft_Closed => first | rfl | k_is)
    (case yk_KnownName_Closed => first | rfl | k_is)
    (case yk_UnknownName_Closed => first | rfl | k_is)
    (case yk_Closed_Closed => first | rfl | k_is)
    (case yk_Opened_Closed => first | rfl | k_is)
    (case yk_InvalidNumber_Closed => first | rfl | k_is)
    (case yk_InvalidRule_Closed => first | rfl | k_is)
    (case yk_InvalidDisk_Closed => first | rfl | k_is)
    (case yk_InvalidName_Closed => first | rfl | k_is)
    (case yk_InvalidRuns_Closed => first | rfl | k_is)
    (case yk_InvalidBlock_Closed => first | rfl | k_is)
    (case yk_InvalidText_Closed => first | rfl | k_is)
    (case yk_InvalidBook_Closed => first | rfl | k_is)
    (case yk_TooMany_Opened => first | rfl | k_is)
    (case yk_Refused_Opened => first | rfl | k_is)
    (case yk_NotDone_Opened => first | rfl | k_is)
    (case yk_NotClosed_Opened => first | rfl | k_is)
    (case yk_Refusable_Opened => first | rfl | k_is)
    (case yk_InvalidChoice_Opened => first | rfl | k_is)
    (case yk_UnknownSet_Opened => first | rfl | k_is)
    (case yk_InvalidCommand_Opened => first | rfl | k_is)
    (case yk_InvalidSizes_Opened => first | rfl | k_is)
    (case yk_InvalidState_Opened => first | rfl | k_is)
    (case yk_InvalidTable_Opened => first | rfl | k_is)
    (case yk_InvalidEvent_Opened => first | rfl | k_is)
    (case yk_InvalidRow_Opened => first | rfl | k_is)
    (case yk_InvalidLine_Opened => first | rfl | k_is)
    (case yk_NothingLeft_Opened => first | rfl | k_is)
    (case yk_KnownName_Opened => first | rfl | k_is)
    (case yk_UnknownName_Opened => first | rfl | k_is)
    (case yk_Closed_Opened => first | rfl | k_is)
    (case yk_Opened_Opened => first | rfl | k_is)
    (case yk_InvalidNumber_Opened => first | rfl | k_is)
    (case yk_InvalidRule_Opened => first | rfl | k_is)
    (case yk_InvalidDisk_Opened => first | rfl | k_is)
    (case yk_InvalidName_Opened => first | rfl | k_is)
    (case yk_InvalidRuns_Opened => first | rfl | k_is)
    (case yk_InvalidBlock_Opened => first | rfl | k_is)
    (case yk_InvalidText_Opened => first | rfl | k_is)
    (case yk_InvalidBook_Opened => first | rfl | k_is)
    (case yk_TooMany_InvalidDisk => first | rfl | k_is)
    (case yk_Refused_InvalidDisk => first | rfl | k_is)
    (case yk_NotDone_InvalidDisk => first | rfl | k_is)
    (case yk_NotClosed_InvalidDisk => first | rfl | k_is)
    (case yk_Refusable_InvalidDisk => first | rfl | k_is)
    (case yk_InvalidChoice_InvalidDisk => first | rfl | k_is)
    (case yk_UnknownSet_InvalidDisk => first | rfl | k_is)
    (case yk_InvalidCommand_InvalidDisk => first | rfl | k_is)
    (case yk_InvalidSizes_InvalidDisk => first | rfl | k_is)
    (case yk_InvalidState_InvalidDisk => first | rfl | k_is)
    (case yk_InvalidTable_InvalidDisk => first | rfl | k_is)
    (case yk_InvalidEvent_InvalidDisk => first | rfl | k_is)
    (case yk_InvalidRow_InvalidDisk => first | rfl | k_is)
    (case yk_InvalidLine_InvalidDisk => first | rfl | k_is)
    (case yk_NothingLeft_InvalidDisk => first | rfl | k_is)
    (case yk_KnownName_InvalidDisk => first | rfl | k_is)
    (case yk_UnknownName_InvalidDisk => first | rfl | k_is)
    (case yk_Closed_InvalidDisk => first | rfl | k_is)
    (case yk_Opened_InvalidDisk => first | rfl | k_is)
    (case yk_InvalidNumber_InvalidDisk => first | rfl | k_is)
    (case yk_InvalidRule_InvalidDisk => first | rfl | k_is)
    (case yk_InvalidDisk_InvalidDisk => first | rfl | k_is)
    (case yk_InvalidName_InvalidDisk => first | rfl | k_is)
    (case yk_InvalidRuns_InvalidDisk => first | rfl | k_is)
    (case yk_InvalidBlock_InvalidDisk => first | rfl | k_is)
    (case yk_InvalidText_InvalidDisk => first | rfl | k_is)
    (case yk_InvalidBook_InvalidDisk => first | rfl | k_is)
    (case yk_TooMany_InvalidName => first | rfl | k_is)
    (case yk_Refused_InvalidName => first | rfl | k_is)
    (case yk_NotDone_InvalidName => first | rfl | k_is)
    (case yk_NotClosed_InvalidName => first | rfl | k_is)
    (case yk_Refusable_InvalidName => first | rfl | k_is)
    (case yk_InvalidChoice_InvalidName => first | rfl | k_is)
    (case yk_UnknownSet_InvalidName => first | rfl | k_is)
    (case yk_InvalidCommand_InvalidName => first | rfl | k_is)
    (case yk_InvalidSizes_InvalidName => first | rfl | k_is)
    (case yk_InvalidState_InvalidName => first | rfl | k_is)
    (case yk_InvalidTable_InvalidName => first | rfl | k_is)
    (case yk_InvalidEvent_InvalidName => first | rfl | k_is)
    (case yk_InvalidRow_InvalidName => first | rfl | k_is)
    (case yk_InvalidLine_InvalidName => first | rfl | k_is)
    (case yk_NothingLeft_InvalidName => first | rfl | k_is)
    (case yk_KnownName_InvalidName => first | rfl | k_is)
    (case yk_UnknownName_InvalidName => first | rfl | k_is)
    (case yk_Closed_InvalidName => first | rfl | k_is)
    (case yk_Opened_InvalidName => first | rfl | k_is)
    (case yk_InvalidNumber_InvalidName => first | rfl | k_is)
    (case yk_InvalidRule_InvalidName => first | rfl | k_is)
    (case yk_InvalidDisk_InvalidName => first | rfl | k_is)
    (case yk_InvalidName_InvalidName => first | rfl | k_is)
    (case yk_InvalidRuns_InvalidName => first | rfl | k_is)
    (case yk_InvalidBlock_InvalidName => first | rfl | k_is)
    (case yk_InvalidText_InvalidName => first | rfl | k_is)
    (case yk_InvalidBook_InvalidName => first | rfl | k_is)
    (case yk_TooMany_KnownName => first | rfl | k_is)
    (case yk_Refused_KnownName => first | rfl | k_is)
    (case yk_NotDone_KnownName => first | rfl | k_is)
    (case yk_NotClosed_KnownName => first | rfl | k_is)
    (case yk_Refusable_KnownName => first | rfl | k_is)
    (case yk_InvalidChoice_KnownName => first | rfl | k_is)
    (case yk_UnknownSet_KnownName => first | rfl | k_is)
    (case yk_InvalidCommand_KnownName => first | rfl | k_is)
    (case yk_InvalidSizes_KnownName => first | rfl | k_is)
    (case yk_InvalidState_KnownName => first | rfl | k_is)
    (case yk_InvalidTable_KnownName => first | rfl | k_is)
    (case yk_InvalidEvent_KnownName => first | rfl | k_is)
    (case yk_InvalidRow_KnownName => first | rfl | k_is)
    (case yk_InvalidLine_KnownName => first | rfl | k_is)
    (case yk_NothingLeft_KnownName => first | rfl | k_is)
    (case yk_KnownName_KnownName => first | rfl | k_is)
    (case yk_UnknownName_KnownName => first | rfl | k_is)
    (case yk_Closed_KnownName => first | rfl | k_is)
    (case yk_Opened_KnownName => first | rfl | k_is)
    (case yk_InvalidNumber_KnownName => first | rfl | k_is)
    (case yk_InvalidRule_KnownName => first | rfl | k_is)
    (case yk_InvalidDisk_KnownName => first | rfl | k_is)
    (case yk_InvalidName_KnownName => first | rfl | k_is)
    (case yk_InvalidRuns_KnownName => first | rfl | k_is)
    (case yk_InvalidBlock_KnownName => first | rfl | k_is)
    (case yk_InvalidText_KnownName => first | rfl | k_is)
    (case yk_InvalidBook_KnownName => first | rfl | k_is)
    (case yk_TooMany_InvalidBook => first | rfl | k_is)
    (case yk_Refused_InvalidBook => first | rfl | k_is)
    (case yk_NotDone_InvalidBook => first | rfl | k_is)
    (case yk_NotClosed_InvalidBook => first | rfl | k_is)
    (case yk_Refusable_InvalidBook => first | rfl | k_is)
    (case yk_InvalidChoice_InvalidBook => first | rfl | k_is)
    (case yk_UnknownSet_InvalidBook => first | rfl | k_is)
    (case yk_InvalidCommand_InvalidBook => first | rfl | k_is)
    (case yk_InvalidSizes_InvalidBook => first | rfl | k_is)
    (case yk_InvalidState_InvalidBook => first | rfl | k_is)
    (case yk_InvalidTable_InvalidBook => first | rfl | k_is)
    (case yk_InvalidEvent_InvalidBook => first | rfl | k_is)
    (case yk_InvalidRow_InvalidBook => first | rfl | k_is)
    (case yk_InvalidLine_InvalidBook => first | rfl | k_is)
    (case yk_NothingLeft_InvalidBook => first | rfl | k_is)
    (case yk_KnownName_InvalidBook => first | rfl | k_is)
    (case yk_UnknownName_InvalidBook => first | rfl | k_is)
    (case yk_Closed_InvalidBook => first | rfl | k_is)
    (case yk_Opened_InvalidBook => first | rfl | k_is)
    (case yk_InvalidNumber_InvalidBook => first | rfl | k_is)
    (case yk_InvalidRule_InvalidBook => first | rfl | k_is)
    (case yk_InvalidDisk_InvalidBook => first | rfl | k_is)
    (case yk_InvalidName_InvalidBook => first | rfl | k_is)
    (case yk_InvalidRuns_InvalidBook => first | rfl | k_is)
    (case yk_InvalidBlock_InvalidBook => first | rfl | k_is)
    (case yk_InvalidText_InvalidBook => first | rfl | k_is)
    (case yk_InvalidBook_InvalidBook => first | rfl | k_is)
    (case yk_TooMany_InvalidNumber => first | rfl | k_is)
    (case yk_Refused_InvalidNumber => first | rfl | k_is)
    (case yk_NotDone_InvalidNumber => first | rfl | k_is)
    (case yk_NotClosed_InvalidNumber => first | rfl | k_is)
    (case yk_Refusable_InvalidNumber => first | rfl | k_is)
    (case yk_InvalidChoice_InvalidNumber => first | rfl | k_is)
    (case yk_UnknownSet_InvalidNumber => first | rfl | k_is)
    (case yk_InvalidCommand_InvalidNumber => first | rfl | k_is)
    (case yk_InvalidSizes_InvalidNumber => first | rfl | k_is)
    (case yk_InvalidState_InvalidNumber => first | rfl | k_is)
    (case yk_InvalidTable_InvalidNumber => first | rfl | k_is)
    (case yk_InvalidEvent_InvalidNumber => first | rfl | k_is)
    (case yk_InvalidRow_InvalidNumber => first | rfl | k_is)
    (case yk_InvalidLine_InvalidNumber => first | rfl | k_is)
    (case yk_NothingLeft_InvalidNumber => first | rfl | k_is)
    (case yk_KnownName_InvalidNumber => first | rfl | k_is)
    (case yk_UnknownName_InvalidNumber => first | rfl | k_is)
    (case yk_Closed_InvalidNumber => first | rfl | k_is)
    (case yk_Opened_InvalidNumber => first | rfl | k_is)
    (case yk_InvalidNumber_InvalidNumber => first | rfl | k_is)
    (case yk_InvalidRule_InvalidNumber => first | rfl | k_is)
    (case yk_InvalidDisk_InvalidNumber => first | rfl | k_is)
    (case yk_InvalidName_InvalidNumber => first | rfl | k_is)
    (case yk_InvalidRuns_InvalidNumber => first | rfl | k_is)
    (case yk_InvalidBlock_InvalidNumber => first | rfl | k_is)
    (case yk_InvalidText_InvalidNumber => first | rfl | k_is)
    (case yk_InvalidBook_InvalidNumber => first | rfl | k_is)
    (case yk_TooMany_InvalidRule => first | rfl | k_is)
    (case yk_Refused_InvalidRule => first | rfl | k_is)
    (case yk_NotDone_InvalidRule => first | rfl | k_is)
    (case yk_NotClosed_InvalidRule => first | rfl | k_is)
    (case yk_Refusable_InvalidRule => first | rfl | k_is)
    (case yk_InvalidChoice_InvalidRule => first | rfl | k_is)
    (case yk_UnknownSet_InvalidRule => first | rfl | k_is)
    (case yk_InvalidCommand_InvalidRule => first | rfl | k_is)
    (case yk_InvalidSizes_InvalidRule => first | rfl | k_is)
    (case yk_InvalidState_InvalidRule => first | rfl | k_is)
    (case yk_InvalidTable_InvalidRule => first | rfl | k_is)
    (case yk_InvalidEvent_InvalidRule => first | rfl | k_is)
    (case yk_InvalidRow_InvalidRule => first | rfl | k_is)
    (case yk_InvalidLine_InvalidRule => first | rfl | k_is)
    (case yk_NothingLeft_InvalidRule => first | rfl | k_is)
    (case yk_KnownName_InvalidRule => first | rfl | k_is)
    (case yk_UnknownName_InvalidRule => first | rfl | k_is)
    (case yk_Closed_InvalidRule => first | rfl | k_is)
    (case yk_Opened_InvalidRule => first | rfl | k_is)
    (case yk_InvalidNumber_InvalidRule => first | rfl | k_is)
    (case yk_InvalidRule_InvalidRule => first | rfl | k_is)
    (case yk_InvalidDisk_InvalidRule => first | rfl | k_is)
    (case yk_InvalidName_InvalidRule => first | rfl | k_is)
    (case yk_InvalidRuns_InvalidRule => first | rfl | k_is)
    (case yk_InvalidBlock_InvalidRule => first | rfl | k_is)
    (case yk_InvalidText_InvalidRule => first | rfl | k_is)
    (case yk_InvalidBook_InvalidRule => first | rfl | k_is)
    (case yk_TooMany_InvalidRuns => first | rfl | k_is)
    (case yk_Refused_InvalidRuns => first | rfl | k_is)
    (case yk_NotDone_InvalidRuns => first | rfl | k_is)
    (case yk_NotClosed_InvalidRuns => first | rfl | k_is)
    (case yk_Refusable_InvalidRuns => first | rfl | k_is)
    (case yk_InvalidChoice_InvalidRuns => first | rfl | k_is)
    (case yk_UnknownSet_InvalidRuns => first | rfl | k_is)
    (case yk_InvalidCommand_InvalidRuns => first | rfl | k_is)
    (case yk_InvalidSizes_InvalidRuns => first | rfl | k_is)
    (case yk_InvalidState_InvalidRuns => first | rfl | k_is)
    (case yk_InvalidTable_InvalidRuns => first | rfl | k_is)
    (case yk_InvalidEvent_InvalidRuns => first | rfl | k_is)
    (case yk_InvalidRow_InvalidRuns => first | rfl | k_is)
    (case yk_InvalidLine_InvalidRuns => first | rfl | k_is)
    (case yk_NothingLeft_InvalidRuns => first | rfl | k_is)
    (case yk_KnownName_InvalidRuns => first | rfl | k_is)
    (case yk_UnknownName_InvalidRuns => first | rfl | k_is)
    (case yk_Closed_InvalidRuns => first | rfl | k_is)
    (case yk_Opened_InvalidRuns => first | rfl | k_is)
    (case yk_InvalidNumber_InvalidRuns => first | rfl | k_is)
    (case yk_InvalidRule_InvalidRuns => first | rfl | k_is)
    (case yk_InvalidDisk_InvalidRuns => first | rfl | k_is)
    (case yk_InvalidName_InvalidRuns => first | rfl | k_is)
    (case yk_InvalidRuns_InvalidRuns => first | rfl | k_is)
    (case yk_InvalidBlock_InvalidRuns => first | rfl | k_is)
    (case yk_InvalidText_InvalidRuns => first | rfl | k_is)
    (case yk_InvalidBook_InvalidRuns => first | rfl | k_is)
    (case yk_TooMany_InvalidBlock => first | rfl | k_is)
    (case yk_Refused_InvalidBlock => first | rfl | k_is)
    (case yk_NotDone_InvalidBlock => first | rfl | k_is)
    (case yk_NotClosed_InvalidBlock => first | rfl | k_is)
    (case yk_Refusable_InvalidBlock => first | rfl | k_is)
    (case yk_InvalidChoice_InvalidBlock => first | rfl | k_is)
    (case yk_UnknownSet_InvalidBlock => first | rfl | k_is)
    (case yk_InvalidCommand_InvalidBlock => first | rfl | k_is)
    (case yk_InvalidSizes_InvalidBlock => first | rfl | k_is)
    (case yk_InvalidState_InvalidBlock => first | rfl | k_is)
    (case yk_InvalidTable_InvalidBlock => first | rfl | k_is)
    (case yk_InvalidEvent_InvalidBlock => first | rfl | k_is)
    (case yk_InvalidRow_InvalidBlock => first | rfl | k_is)
    (case yk_InvalidLine_InvalidBlock => first | rfl | k_is)
    (case yk_NothingLeft_InvalidBlock => first | rfl | k_is)
    (case yk_KnownName_InvalidBlock => first | rfl | k_is)
    (case yk_UnknownName_InvalidBlock => first | rfl | k_is)
    (case yk_Closed_InvalidBlock => first | rfl | k_is)
    (case yk_Opened_InvalidBlock => first | rfl | k_is)
    (case yk_InvalidNumber_InvalidBlock => first | rfl | k_is)
    (case yk_InvalidRule_InvalidBlock => first | rfl | k_is)
    (case yk_InvalidDisk_InvalidBlock => first | rfl | k_is)
    (case yk_InvalidName_InvalidBlock => first | rfl | k_is)
    (case yk_InvalidRuns_InvalidBlock => first | rfl | k_is)
    (case yk_InvalidBlock_InvalidBlock => first | rfl | k_is)
    (case yk_InvalidText_InvalidBlock => first | rfl | k_is)
    (case yk_InvalidBook_InvalidBlock => first | rfl | k_is)
    (case yk_TooMany_InvalidText => first | rfl | k_is)
    (case yk_Refused_InvalidText => first | rfl | k_is)
    (case yk_NotDone_InvalidText => first | rfl | k_is)
    (case yk_NotClosed_InvalidText => first | rfl | k_is)
    (case yk_Refusable_InvalidText => first | rfl | k_is)
    (case yk_InvalidChoice_InvalidText => first | rfl | k_is)
    (case yk_UnknownSet_InvalidText => first | rfl | k_is)
    (case yk_InvalidCommand_InvalidText => first | rfl | k_is)
    (case yk_InvalidSizes_InvalidText => first | rfl | k_is)
    (case yk_InvalidState_InvalidText => first | rfl | k_is)
    (case yk_InvalidTable_InvalidText => first | rfl | k_is)
    (case yk_InvalidEvent_InvalidText => first | rfl | k_is)
    (case yk_InvalidRow_InvalidText => first | rfl | k_is)
    (case yk_InvalidLine_InvalidText => first | rfl | k_is)
    (case yk_NothingLeft_InvalidText => first | rfl | k_is)
    (case yk_KnownName_InvalidText => first | rfl | k_is)
    (case yk_UnknownName_InvalidText => first | rfl | k_is)
    (case yk_Closed_InvalidText => first | rfl | k_is)
    (case yk_Opened_InvalidText => first | rfl | k_is)
    (case yk_InvalidNumber_InvalidText => first | rfl | k_is)
    (case yk_InvalidRule_InvalidText => first | rfl | k_is)
    (case yk_InvalidDisk_InvalidText => first | rfl | k_is)
    (case yk_InvalidName_InvalidText => first | rfl | k_is)
    (case yk_InvalidRuns_InvalidText => first | rfl | k_is)
    (case yk_InvalidBlock_InvalidText => first | rfl | k_is)
    (case yk_InvalidText_InvalidText => first | rfl | k_is)
    (case yk_InvalidBook_InvalidText => first | rfl | k_is)
    (case yk_TooMany_GrowError => first | rfl | k_is)
    (case yk_Refused_GrowError => first | rfl | k_is)
    (case yk_NotDone_GrowError => first | rfl | k_is)
    (case yk_NotClosed_GrowError => first | rfl | k_is)
    (case yk_Refusable_GrowError => first | rfl | k_is)
    (case yk_InvalidChoice_GrowError => first | rfl | k_is)
    (case yk_UnknownSet_GrowError => first | rfl | k_is)
    (case yk_InvalidCommand_GrowError => first | rfl | k_is)
    (case yk_InvalidSizes_GrowError => first | rfl | k_is)
    (case yk_InvalidState_GrowError => first | rfl | k_is)
    (case yk_InvalidTable_GrowError => first | rfl | k_is)
    (case yk_InvalidEvent_GrowError => first | rfl | k_is)
    (case yk_InvalidRow_GrowError => first | rfl | k_is)
    (case yk_InvalidLine_GrowError => first | rfl | k_is)
    (case yk_NothingLeft_GrowError => first | rfl | k_is)
    (case yk_KnownName_GrowError => first | rfl | k_is)
    (case yk_UnknownName_GrowError => first | rfl | k_is)
    (case yk_Closed_GrowError => first | rfl | k_is)
    (case yk_Opened_GrowError => first | rfl | k_is)
    (case yk_InvalidNumber_GrowError => first | rfl | k_is)
    (case yk_InvalidRule_GrowError => first | rfl | k_is)
    (case yk_InvalidDisk_GrowError => first | rfl | k_is)
    (case yk_InvalidName_GrowError => first | rfl | k_is)
    (case yk_InvalidRuns_GrowError => first | rfl | k_is)
    (case yk_InvalidBlock_GrowError => first | rfl | k_is)
    (case yk_InvalidText_GrowError => first | rfl | k_is)
    (case yk_InvalidBook_GrowError => first | rfl | k_is)
