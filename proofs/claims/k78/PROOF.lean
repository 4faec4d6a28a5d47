import PyProof.Rows.All
import Wide.All
import OpenK.AllK
import Wide.FinOn
import HandS.Exc
import HandS.ExcOwn
import HandS.ExcInit
import HandS.ExcCtx
import HandS.Hot
import HandS.HotCalls
import HandS.ExcInitHot
import HandS.WordsExc
import HandS.TryOnly
import HandS.TryMany
import HandS.RaiseFrom
import HandS.ForMost
import HandS.CallSlots
import HandS.Wide
import HandS.Deep
import HandS.IsInst
import HandS.Flow
import HandS.EndTab
import HandS.ExcIs
import HandS.ExcField
import KE.KExcIs
import HandS.Property
import HandS.MakeKwOnly
import HandS.Defaults
import HandS.Style
import HandS.RaiseMore
import HandS.DictComp
import PyProof.InstNe
import PyProof.LongRange
import KE.KCallOwn
import HandS.More
import HandS.Conv
import HandS.ListItems
import HandS.Lambda
import KE.SortUse
import HandS.RevTup
import KE.KOpsOwn
import HandS.GenList
import HandS.GenYield
import HandS.NoneIn
import PyProof.WalksMore
import PyProof.SumWalkG
import KE.KDictList
import HandS.Small
import HandS.TupAny
import HandS.Star
import HandS.Zip
import KE.GoesZip
import KE.GoesMore
import HandS.StrMore
import HandS.Text
import HandS.FStr
import HandS.TupMul
import PyProof.Rows.Range3
import PyProof.Conv_bool
import PySem.Challenge.RW_grownfiles_k78_wishes
set_option Elab.async false
set_option linter.all false
set_option maxRecDepth 100000
set_option maxHeartbeats 2000000
namespace TL
open PySem PySem.Spec PyProof.Rows L2
section
variable {X : Cx} {W : WX}
theorem cxN {P : Program} {w : World} {outer : List Env} {H : Hp} {s : Shared} {E : XK} {u : Value} {s' : Shared} (c : L2N.CX P w outer H s E u s') : L2.CX P w outer H s E u s' := by
  obtain ⟨a, B, H', cls, d, e, fl, r⟩ := c
  exact ⟨a, B, H', cls, d, e, ⟨fl.1, fl.2.1, fl.2.2.1, by obtain ⟨oe, vs, T, oT, ts, he, hz, r⟩ := fl.2.2.2; exact ⟨oe, vs, T, oT, ts, he, hz.zc, r⟩⟩, r⟩
end
section
variable {P : Program} {w : World} {K : PySem.W.Frag} {mg : Str → Option Value} {base : Heap} {k : Nat} {f : Addr} {fd : FuncData} {ps : List Str} {sp : Sp}
theorem _root_.L2.FnOk.gen (F : FnOk P w K mg base (L2N.CX P w) k f fd ps sp) : FnOk P w K mg base (L2.CX P w) k f fd ps sp :=
  ⟨F.len, fun A outer s H args us vs Q E hr e0 b v q => codeAny_mono (F.run A outer s H args us vs Q E hr e0 b v q) fun r s' h => by
    cases r with
    | error e => exact cxN h
    | ok fl => cases fl <;> exact h⟩
theorem _root_.L2.Fun.okC {CX : CXT} {x qual : Str} {st : Stmt} {N : List Str} (F : Fun K x qual st f fd) (S : FnScope N ps (defScope st)) (len : ∀ vs H Q E, sp vs H Q E → vs.length = ps.length)
    (hbody : ∀ (cdv : Value) (A : Around) (outer : List Env) (s : Shared) (H : Hp) (vs : List V) (Q : VK) (E : XK), Room k (A.deeper (envOfC qual (defScope st) s.heap.objs.size f cdv)) → sp vs H Q E →
      ∃ t, PSs (cxOf CX P w K mg base N qual (defScope st) f cdv A outer s H E) (defBody st) t ∧ t { nx := fun _ H' => Q .non H', rt := Q } (start N vs) H) : FnOk P w K mg base CX (k + 1) f fd ps sp := by
  obtain ⟨oc, od, kV, doc, pm, an, cdv, ct, osl, rfl, lk, hcd⟩ := F.ex
  exact fn_of lk hcd S len fun A outer s H vs Q E hr hsp => hbody cdv A outer s H vs Q E hr hsp
end
theorem pmk_oexN {X : Cx} {CX : CXT} {x : Str} {e : Expr} {es : List Expr} {ta : TA} {p pos : Pos} {C fI : Addr} {k : Nat} {fd : FuncData} {ps : List Str} {sp : Sp} {ds : List Value} {dvs : List V} (T : OexC X.K C) (iC : PySem.W.findIn X.K (.ref C) "__init__" = some (some (.ref fI))) (tI : PySem.W.typeIn X.K (.ref fI) = some (.type "function"))
    (F1 : FnOk X.prog X.w X.K X.mg X.base CX k fI fd ps sp) (hr : Room (k + 1) X.A) (hb : Binds X.K fd ps ds) (hd : Vals dvs ds) (hx : Passes CX X (fun _ _ _ => False)) (hg : Gl X x) (hm : X.mg x = some (.ref C)) (ha : PA X (e :: es) ta)
    (hdb : (x == ("__debug__" : Str)) = false := by decide) (he : starEach (e :: es) X.env = (false, eval e X.env) :: starEach es X.env := by rfl) (hpl : (backTo pos (starEach es X.env)).any (·.1) = false := by rfl) :
    L2N.PMk X (.Call (.Name x p) (e :: es) [] pos) (tMkO C sp dvs ta) := by
  intro pins s σ H Q I h
  obtain ⟨nm, q, N, bs, bm, sn, sub, ab, col, dd, k0, k1, k2, k3, k5, hC, hbm⟩ := T.cls
  refine wpAny_Call_Name_kw (ld_glob I hg hm ?_ hdb)
  refine PySem.W.callWith_K (h₀ := X.base) I.ok.mod.kin T.kC (thn (ha.run pos pins s σ H _ I h) fun us s1 ⟨vs, H1, I1, r1, hz, q1⟩ => ⟨I1.kIn, ?_⟩) he hpl
  show wpAny _ _ (call (.ref C) us) _ _ _
  obtain ⟨hp, g, dr, tk, os⟩ := s1
  have hsz : hp.objs.size ≤ hp.objs.size + 1 := Nat.le_succ _
  have hn : H1 (hp.objs.size + 1) = none := I1.hok.fresh hsz
  have hq := q1 (hp.objs.size + 1) hn
  have kk : ∀ b o, hp.get? b = some o → ((hp.push (PySem.W.kdv_tup us)).push (PySem.HandSPX.excO C hp.objs.size)).get? b = some o := fun b o e => Heap.get?_push_of_some _ (Heap.get?_push_of_some _ e)
  have hget : ((hp.push (PySem.W.kdv_tup us)).push (PySem.HandSPX.excO C hp.objs.size)).get? (hp.objs.size + 1) = some (PySem.HandSPX.excO C hp.objs.size) := by heap_get
  have I2 : Inv X pins σ (upd H1 (hp.objs.size + 1) (exo (hp.objs.size + 1) C none)) ⟨(hp.push (PySem.W.kdv_tup us)).push (PySem.HandSPX.excO C hp.objs.size), g, dr, tk, os⟩ :=
    I1.laid (t' := tk) (a := hp.objs.size + 1) (o := exo (hp.objs.size + 1) C none) (h' := (hp.push (PySem.W.kdv_tup us)).push (PySem.HandSPX.excO C hp.objs.size)) kk hsz (exo_ok hget)
  have r2 : Vals (V.ref (hp.objs.size + 1) :: (vs ++ dvs)) (Value.ref (hp.objs.size + 1) :: (us ++ ds)) := .cons rfl (r1.append hd)
  have hl : (Value.ref (hp.objs.size + 1) :: us ++ ds).length = ps.length := by
    have e := r2.length
    rw [F1.len _ _ _ _ hq] at e
    exact e.symm
  have hus : us.length ≤ sizeLine := by
    rw [← Paired.length r1, sizeLine_eq]
    omega
  refine wpAny_call (PySem.HandSPX.call_own F.excBase_ValueError (fun Y => PySem.HandSPX.refsVE_contains Y bm hbm) (I1.kIn _ _ hC) (PySem.W.looks_findIn I1.kIn iC) (fun self => PySem.W.bind_fn I1.kIn self tI) hus
    (codeAny_mono (F1.run _ X.stack _ _ ⟨Value.ref (hp.objs.size + 1) :: us, []⟩ (Value.ref (hp.objs.size + 1) :: (us ++ ds)) _ _ (fun _ _ _ => False) (hr.make C us []) (I2.env0.make C us []) (hb _ (Value.ref (hp.objs.size + 1) :: us) I2.kIn hl) r2 hq) fun r s' hq' => ?_))
  cases r with
  | error er => exact hx pins σ _ _ er s' I2 hq'
  | ok fl =>
    cases fl with
    | ret u =>
      obtain ⟨v, H2, os2, bare2, un2, hok2, rv, ev, d, fs, ea, ed, hd1, q2⟩ := hq'
      subst ev
      obtain ⟨h2, g2, d2, t2, os'⟩ := s'
      obtain ⟨t0, G, J, kG, ge, hoe, na⟩ := mk_end0 (d2 := d2) (t2 := t2) I1 hsz kk un2 hok2 os2 bare2 ea ed hd1
      exact ⟨rv, hp.objs.size + 1, _, _, ⟨G, g2, d2, t2, os'⟩, _, .ref C, some d, rfl, J, kG, ge, hoe, ⟨rfl, rfl, fun vs hv => by cases hv; rfl⟩, rfl, rfl, na, rfl, bare2, raises_own T.exC T.tyC, q2⟩
    | next => exact False.elim hq'
    | brk => exact False.elim hq'
    | cont => exact False.elim hq'
section
variable {X : Cx} {x : Str} {c : Value} {body suite : List Stmt} {b₀ : Stmt} {np pos pos' : Pos} {tb : WX → TS} {ts : Addr → Value → Option Addr → TS} {Wout : WX}
end
end TL

set_option maxHeartbeats 2000000
namespace TL
open PySem PySem.Spec PyProof.Rows L2 L2H HotX
section
variable {X : Cx} {pins : List (Addr × Obj)} {σ : L2.St} {H : Hp} {s sI s' : Shared}
end
section
variable {X : Cx} {pins : List (Addr × Obj)} {σ : L2.St} {H : Hp} {s : Shared} {B : Heap}
end
section
variable {X : Cx} {x n : Str} {c : Value} {i : Nat} {body suite : List Stmt} {b₀ : Stmt} {np pos pos' : Pos} {tb : WX → TS} {ts : Addr → Value → Option Addr → TS} {Wout : WX}
end
end TL

namespace TL
open PySem L2

inductive T where
  | non | bl (b : Bool) | int (i : Int) | str (x : Str)
  | tup (ts : List T) | lst (ts : List T) | ins (C : Addr) (fs : List (Str × T))
  | ref (a : Addr) | ty (n : String) | scr (ns : List Int)
  | exc (a : Addr) (cls : Value) (d : Option Addr) (fs : List (Str × T))
  | xob (C : Addr) (fs : List (Str × T))
  deriving Inhabited

inductive O where
  | lst (ts : List T) | ins (C : Addr) (fs : List (Str × T)) | pool
  | dK (kvs : List (Key × T)) | dT (kvs : List (List Key × T)) | tab (q : Str)
  | dL (u : HO) (kvs : List (Key × T))
abbrev Hq := Addr → Option O
def put (h : Hq) (a : Addr) (o : O) : Hq := fun b => if b = a then some o else h b
def del (h : Hq) (a : Addr) : Hq := fun b => if b = a then none else h b
@[simp] theorem put_same {h : Hq} {a : Addr} {o : O} : put h a o a = some o := by unfold put; rw [if_pos rfl]
theorem put_ne {h : Hq} {a b : Addr} {o : O} (e : b ≠ a) : put h a o b = h b := by unfold put; rw [if_neg e]
@[simp] theorem put_put {h : Hq} {a : Addr} {o u : O} : put (put h a o) a u = put h a u := by funext b; unfold put; split <;> rfl
theorem put_id {h : Hq} {a : Addr} {o : O} (e : h a = some o) : put h a o = h := by
  funext b; unfold put; split
  · rename_i q; rw [q, e]
  · rfl
theorem del_put {h : Hq} {a : Addr} {o : O} (e : h a = none) : del (put h a o) a = h := by
  funext b; unfold del put; split
  · rename_i q; rw [q, e]
  · rfl
theorem ne_fresh {h : Hq} {a b : Addr} {o : O} (e : h a = some o) (n : h b = none) : a ≠ b := by
  intro q; rw [q, n] at e; cases e
def KL (K : PySem.W.Frag) (a : Addr) (xs : List V) : Prop :=
  ∃ (o : Obj) (its : Array Value) (n : Nat), K.lookup a = some o ∧ o.cls = .type "list" ∧ o.dict = none ∧ o.data = .seq its n ∧ its.size ≤ sizeLine ∧ Vals xs its.toList
def KX (xs : List V) : Prop := (∃ x, V.str x ∈ xs) ∨ xs = [.int 1, .int 1]
def KT (K : PySem.W.Frag) (a : Addr) (xs : List V) : Prop :=
  ∃ (o : Obj) (its : Array Value) (n : Nat), K.lookup a = some o ∧ o.cls = .type "tuple" ∧ o.data = .seq its n ∧ its.size ≤ sizeLine ∧ Vals xs its.toList

structure Fz where
  s : Addr → Prop
  p : Addr → Prop
def Fz.has (S : Fz) (a : Addr) : Prop := S.s a ∨ S.p a
def XOk (φ : Heap → Prop) (a C dd : Addr) : Prop := ∀ h : Heap, φ h → ∃ oe : Obj, h.get? a = some oe ∧ Zc (.ref C) (some dd) oe ∧ ∃ vs, oe.data = .fields vs
mutual
inductive Rep (K : PySem.W.Frag) (S : Fz) (H : Hp) : V → T → Prop
  | non : Rep K S H .non .non
  | bl (b : Bool) : Rep K S H (.bl b) (.bl b)
  | int (i : Int) : Rep K S H (.int i) (.int i)
  | str (x : Str) : Rep K S H (.str x) (.str x)
  | tup {a : Addr} {vs : List V} {ts : List T} : S.s a → H a = some (.tup vs) → RepL K S H vs ts → Rep K S H (.ref a) (.tup ts)
  | tupK {a : Addr} {vs : List V} {ts : List T} : KT K a vs → KX vs → RepL K S H vs ts → Rep K S H (.ref a) (.tup ts)
  | lst {a : Addr} {vs : List V} {ts : List T} : S.s a → H a = some (.lst vs) → RepL K S H vs ts → Rep K S H (.ref a) (.lst ts)
  | scr {a : Addr} {ns : List Int} : S.s a → Rd H a (.lst (ns.map V.int)) → Rep K S H (.ref a) (.scr ns)
  | scrK {a : Addr} {ns : List Int} : KL K a (ns.map V.int) → Rep K S H (.ref a) (.scr ns)
  | ins {a C dx : Addr} {fs : List (Str × V)} {gs : List (Str × T)} : S.s a → H a = some (.ins C dx fs) → RepF K S H fs gs → Rep K S H (.ref a) (.ins C gs)
  | ref (a : Addr) : Rep K S H (.ref a) (.ref a)
  | ty (n : String) : Rep K S H (.ty n) (.ty n)
  | exc {a dd : Addr} {cls : Value} {fs : List (Str × V)} {gs : List (Str × T)} : S.s dd → H dd = some (.xd fs) → RepF K S H fs gs → Rep K S H (.ref a) (.exc a cls (some dd) gs)
  | exc0 {a : Addr} {cls : Value} : Rep K S H (.ref a) (.exc a cls none [])
  | xob {a dd C : Addr} {φ : Heap → Prop} {fs : List (Str × V)} {gs : List (Str × T)} : S.s a → H a = some (.ext φ) → XOk φ a C dd → S.s dd → H dd = some (.xd fs) → RepF K S H fs gs → Rep K S H (.ref a) (.xob C gs)
inductive RepL (K : PySem.W.Frag) (S : Fz) (H : Hp) : List V → List T → Prop
  | nil : RepL K S H [] []
  | cons {v : V} {vs : List V} {t : T} {ts : List T} : Rep K S H v t → RepL K S H vs ts → RepL K S H (v :: vs) (t :: ts)
inductive RepF (K : PySem.W.Frag) (S : Fz) (H : Hp) : List (Str × V) → List (Str × T) → Prop
  | nil : RepF K S H [] []
  | cons {f : Str} {v : V} {vs : List (Str × V)} {t : T} {ts : List (Str × T)} : Rep K S H v t → RepF K S H vs ts → RepF K S H ((f, v) :: vs) ((f, t) :: ts)
end

structure Fut (S : Fz) (H : Hp) (S1 : Fz) (H1 : Hp) : Prop where
  sub : ∀ a, S.s a → S1.s a
  kp : ∀ a, S.has a → H1 a = H a
  pe : S1.p = S.p
theorem Fut.refl {S : Fz} {H : Hp} : Fut S H S H := ⟨fun _ h => h, fun _ _ => rfl, rfl⟩
theorem Fut.trans {S S1 S2 : Fz} {H H1 H2 : Hp} (a : Fut S H S1 H1) (b : Fut S1 H1 S2 H2) : Fut S H S2 H2 :=
  ⟨fun x h => b.sub x (a.sub x h), fun x h => (b.kp x (h.elim (fun z => .inl (a.sub x z)) fun z => .inr (a.pe ▸ z))).trans (a.kp x h), b.pe.trans a.pe⟩
theorem Fut.rd {S S1 : Fz} {H H1 : Hp} (f : Fut S H S1 H1) {a : Addr} {u : HO} (s : S.s a) (h : Rd H a u) : Rd H1 a u := by
  unfold Rd at *; rw [f.kp a (.inl s)]; exact h
structure Fu (S : Fz) (H : Hp) (S1 : Fz) (H1 : Hp) : Prop where
  sub : ∀ a, S.s a → S1.s a
  kp : ∀ a, S.s a → H1 a = H a
theorem Fut.fu {S S1 : Fz} {H H1 : Hp} (f : Fut S H S1 H1) : Fu S H S1 H1 := ⟨f.sub, fun a s => f.kp a (.inl s)⟩
theorem Fu.trans {S S1 S2 : Fz} {H H1 H2 : Hp} (a : Fu S H S1 H1) (b : Fu S1 H1 S2 H2) : Fu S H S2 H2 := ⟨fun x h => b.sub x (a.sub x h), fun x h => (b.kp x (a.sub x h)).trans (a.kp x h)⟩
theorem Fu.rd {S S1 : Fz} {H H1 : Hp} (f : Fu S H S1 H1) {a : Addr} {u : HO} (s : S.s a) (h : Rd H a u) : Rd H1 a u := by
  unfold Rd at *; rw [f.kp a s]; exact h
section
variable {K : PySem.W.Frag} {S S1 : Fz} {H H1 : Hp}
mutual
theorem Rep.fu (f : Fu S H S1 H1) : ∀ {v : V} {t : T}, Rep K S H v t → Rep K S1 H1 v t
  | _, _, .non => .non
  | _, _, .bl b => .bl b
  | _, _, .int i => .int i
  | _, _, .str x => .str x
  | _, _, .tup s h r => .tup (f.sub _ s) ((f.kp _ s).trans h) (RepL.fu f r)
  | _, _, .tupK h k r => .tupK h k (RepL.fu f r)
  | _, _, .lst s h r => .lst (f.sub _ s) ((f.kp _ s).trans h) (RepL.fu f r)
  | _, _, .scr s h => .scr (f.sub _ s) (f.rd s h)
  | _, _, .scrK h => .scrK h
  | _, _, .ins s h r => .ins (f.sub _ s) ((f.kp _ s).trans h) (RepF.fu f r)
  | _, _, .ref a => .ref a
  | _, _, .ty n => .ty n
  | _, _, .exc s h r => .exc (f.sub _ s) ((f.kp _ s).trans h) (RepF.fu f r)
  | _, _, .exc0 => .exc0
  | _, _, .xob s h k s' h' r => .xob (f.sub _ s) ((f.kp _ s).trans h) k (f.sub _ s') ((f.kp _ s').trans h') (RepF.fu f r)
theorem RepL.fu (f : Fu S H S1 H1) : ∀ {v : List V} {t : List T}, RepL K S H v t → RepL K S1 H1 v t
  | _, _, .nil => .nil
  | _, _, .cons r q => .cons (Rep.fu f r) (RepL.fu f q)
theorem RepF.fu (f : Fu S H S1 H1) : ∀ {v : List (Str × V)} {t : List (Str × T)}, RepF K S H v t → RepF K S1 H1 v t
  | _, _, .nil => .nil
  | _, _, .cons r q => .cons (Rep.fu f r) (RepF.fu f q)
end
theorem Rep.fut (f : Fut S H S1 H1) {v : V} {t : T} (r : Rep K S H v t) : Rep K S1 H1 v t := r.fu f.fu
theorem RepL.fut (f : Fut S H S1 H1) {v : List V} {t : List T} (r : RepL K S H v t) : RepL K S1 H1 v t := r.fu f.fu
theorem RepF.fut (f : Fut S H S1 H1) {v : List (Str × V)} {t : List (Str × T)} (r : RepF K S H v t) : RepF K S1 H1 v t := r.fu f.fu
mutual
theorem Rep.fut' (f : ∀ a, S.s a → S1.s a) : ∀ {v : V} {t : T}, Rep K S H v t → Rep K S1 H v t
  | _, _, .non => .non
  | _, _, .bl b => .bl b
  | _, _, .int i => .int i
  | _, _, .str x => .str x
  | _, _, .tup s h r => .tup (f _ s) h (RepL.fut' f r)
  | _, _, .tupK h k r => .tupK h k (RepL.fut' f r)
  | _, _, .lst s h r => .lst (f _ s) h (RepL.fut' f r)
  | _, _, .scr s h => .scr (f _ s) h
  | _, _, .scrK h => .scrK h
  | _, _, .ins s h r => .ins (f _ s) h (RepF.fut' f r)
  | _, _, .ref a => .ref a
  | _, _, .ty n => .ty n
  | _, _, .exc s h r => .exc (f _ s) h (RepF.fut' f r)
  | _, _, .exc0 => .exc0
  | _, _, .xob s h k s' h' r => .xob (f _ s) h k (f _ s') h' (RepF.fut' f r)
theorem RepL.fut' (f : ∀ a, S.s a → S1.s a) : ∀ {v : List V} {t : List T}, RepL K S H v t → RepL K S1 H v t
  | _, _, .nil => .nil
  | _, _, .cons r q => .cons (Rep.fut' f r) (RepL.fut' f q)
theorem RepF.fut' (f : ∀ a, S.s a → S1.s a) : ∀ {v : List (Str × V)} {t : List (Str × T)}, RepF K S H v t → RepF K S1 H v t
  | _, _, .nil => .nil
  | _, _, .cons r q => .cons (Rep.fut' f r) (RepF.fut' f q)
end
theorem Rep.scr_sq {v : V} {ns : List Int} (r : Rep K S H v (.scr ns)) : ∃ a, v = .ref a ∧ SqL K H a (ns.map V.int) ∧ ∀ S1 H1, Fu S H S1 H1 → SqL K H1 a (ns.map V.int) := by
  cases r with
  | scr s h => exact ⟨_, rfl, .inl h, fun S1 H1 f => .inl (f.rd s h)⟩
  | scrK h => exact ⟨_, rfl, .inr h, fun S1 H1 f => .inr h⟩
theorem RepL.length : ∀ {v : List V} {t : List T}, RepL K S H v t → v.length = t.length
  | _, _, .nil => rfl
  | _, _, .cons _ q => congrArg (· + 1) (RepL.length q)
theorem RepL.get : ∀ {v : List V} {t : List T} {i : Nat} {y : T}, RepL K S H v t → t[i]? = some y → ∃ x, v[i]? = some x ∧ Rep K S H x y
  | _, _, _, _, .nil, e => by simp at e
  | _, _, 0, _, .cons r _, e => by simp at e; subst e; exact ⟨_, rfl, r⟩
  | _, _, i + 1, y, .cons _ q, e => by
    obtain ⟨x, h1, h2⟩ := RepL.get (i := i) (y := y) q (by simpa using e)
    exact ⟨x, by simpa using h1, h2⟩
theorem RepL.append : ∀ {v w : List V} {t u : List T}, RepL K S H v t → RepL K S H w u → RepL K S H (v ++ w) (t ++ u)
  | _, _, _, _, .nil, s => s
  | _, _, _, _, .cons r q, s => .cons r (RepL.append q s)
theorem RepL.take : ∀ (n : Nat) {v : List V} {t : List T}, RepL K S H v t → RepL K S H (v.take n) (t.take n)
  | 0, _, _, _ => .nil
  | _ + 1, _, _, .nil => .nil
  | n + 1, _, _, .cons r q => .cons r (RepL.take n q)
theorem RepL.drop : ∀ (n : Nat) {v : List V} {t : List T}, RepL K S H v t → RepL K S H (v.drop n) (t.drop n)
  | 0, _, _, r => r
  | _ + 1, _, _, .nil => .nil
  | n + 1, _, _, .cons _ q => RepL.drop n q
theorem RepL.set {x : V} {y : T} (r : Rep K S H x y) : ∀ (i : Nat) {v : List V} {t : List T}, RepL K S H v t → RepL K S H (v.set i x) (t.set i y)
  | _, _, _, .nil => .nil
  | 0, _, _, .cons _ q => .cons r q
  | i + 1, _, _, .cons p q => .cons p (RepL.set r i q)
theorem RepL.dropLast : ∀ {v : List V} {t : List T}, RepL K S H v t → RepL K S H v.dropLast t.dropLast
  | _, _, .nil => .nil
  | _, _, .cons r .nil => .nil
  | _, _, .cons r (.cons p q) => .cons r (RepL.dropLast (.cons p q))
theorem RepL.replicate (n : Nat) {v : List V} {t : List T} (r : RepL K S H v t) : RepL K S H (List.replicate n v).flatten (List.replicate n t).flatten := by
  induction n with
  | zero => exact .nil
  | succ n ih => rw [List.replicate_succ, List.replicate_succ, List.flatten_cons, List.flatten_cons]; exact r.append ih
theorem RepL.ints : ∀ {v : List V} {ns : List Int}, RepL K S H v (ns.map T.int) → v = ns.map V.int
  | _, [], .nil => rfl
  | _, n :: ns, .cons r q => by
    cases r
    rw [RepL.ints (ns := ns) q]
    rfl
theorem RepL.of_ints : ∀ (ns : List Int), RepL K S H (ns.map V.int) (ns.map T.int)
  | [] => .nil
  | n :: ns => .cons (.int n) (RepL.of_ints ns)
end

def RepD {κ : Type} (K : PySem.W.Frag) (S : Fz) (H : Hp) (kvs : List (κ × V)) (gs : List (κ × T)) : Prop := kvs.map (·.1) = gs.map (·.1) ∧ RepL K S H (kvs.map (·.2)) (gs.map (·.2))
def RepO (K : PySem.W.Frag) (S : Fz) (H : Hp) (u : HO) : O → Prop
  | .lst ts => ∃ vs, u = .lst vs ∧ RepL K S H vs ts
  | .ins C gs => ∃ dx fs, u = .ins C dx fs ∧ RepF K S H fs gs
  | .pool => ∃ a b : Int, u = .lst [.int a, .int b] ∧ 0 ≤ a ∧ 0 ≤ b ∧ b < 2147483647
  | .dK gs => ∃ kvs, u = .dK kvs ∧ RepD K S H kvs gs
  | .dT gs => ∃ kvs, u = .dT kvs ∧ RepD K S H kvs gs
  | .dL u0 gs => u = u0 ∧ ∃ o kvs, u0 = .frz o (.dK kvs) ∧ RepD K S H kvs gs
  | .tab q => ∃ ps : Array Value, u = .tbl ps ∧ TriplesOk ps.toList ∧ ∀ (pos : Pos) (cv : Value), codeAmong pos ps.toList = some cv → ∃ c, cv = .ref c ∧ S.s c ∧ H c = some (LamX.CodeO c q)
theorem RepO.fut {K : PySem.W.Frag} {S S1 : Fz} {H H1 : Hp} {u : HO} (f : Fut S H S1 H1) : ∀ {o : O}, RepO K S H u o → RepO K S1 H1 u o
  | .lst _, ⟨vs, e, r⟩ => ⟨vs, e, r.fut f⟩
  | .ins _ _, ⟨dx, fs, e, r⟩ => ⟨dx, fs, e, r.fut f⟩
  | .pool, r => r
  | .dK _, ⟨vs, e, r⟩ => ⟨vs, e, r.1, r.2.fut f⟩
  | .dT _, ⟨vs, e, r⟩ => ⟨vs, e, r.1, r.2.fut f⟩
  | .tab _, ⟨ps, e, t, r⟩ => ⟨ps, e, t, fun pos cv hc => let ⟨c, e1, s1, h1⟩ := r pos cv hc; ⟨c, e1, f.sub c s1, (f.kp c (.inl s1)).trans h1⟩⟩
  | .dL _ _, ⟨e0, o, vs, e, r⟩ => ⟨e0, o, vs, e, r.1, r.2.fut f⟩

theorem RepO.fut' {K : PySem.W.Frag} {S S1 : Fz} {H : Hp} {u : HO} (f : ∀ a, S.s a → S1.s a) : ∀ {o : O}, RepO K S H u o → RepO K S1 H u o
  | .lst _, ⟨vs, e, r⟩ => ⟨vs, e, r.fut' f⟩
  | .ins _ _, ⟨dx, fs, e, r⟩ => ⟨dx, fs, e, r.fut' f⟩
  | .pool, r => r
  | .dK _, ⟨vs, e, r⟩ => ⟨vs, e, r.1, r.2.fut' f⟩
  | .dT _, ⟨vs, e, r⟩ => ⟨vs, e, r.1, r.2.fut' f⟩
  | .tab _, ⟨ps, e, t, r⟩ => ⟨ps, e, t, fun pos cv hc => let ⟨c, e1, s1, h1⟩ := r pos cv hc; ⟨c, e1, f c s1, h1⟩⟩
  | .dL _ _, ⟨e0, o, vs, e, r⟩ => ⟨e0, o, vs, e, r.1, r.2.fut' f⟩

structure Sim (K : PySem.W.Frag) (S : Fz) (H : Hp) (h : Hq) : Prop where
  fr : ∀ a, S.has a → h a = none
  al : ∀ a, S.has a → H a ≠ none
  dj : ∀ a, S.s a → ¬ S.p a
  ob : ∀ a o, h a = some o → ∃ u, H a = some u ∧ RepO K S H u o
section
variable {K : PySem.W.Frag} {S : Fz} {H : Hp} {h : Hq}
theorem Sim.free (m : Sim K S H h) {p : Addr} (e : H p = none) : h p = none := by
  cases q : h p with
  | none => rfl
  | some o =>
    obtain ⟨u, r, _⟩ := m.ob p o q
    rw [e] at r; cases r
theorem Sim.nS (m : Sim K S H h) {p : Addr} (e : H p = none) : ¬ S.has p := fun s => m.al p s e
theorem Sim.nS' (m : Sim K S H h) {p : Addr} {o : O} (e : h p = some o) : ¬ S.has p := fun s => by
  rw [m.fr p s] at e; cases e
theorem neS {a p : Addr} (s : S.has a) (n : ¬ S.has p) : a ≠ p := fun e => n (e ▸ s)
theorem fut_upd {p : Addr} {u : HO} (n : ¬ S.has p) : Fut S H S (upd H p u) := ⟨fun _ s => s, fun a s => upd_ne (neS s n), rfl⟩
theorem Sim.new (m : Sim K S H h) {p : Addr} {u : HO} {o : O} (e : H p = none) (r : RepO K S H u o) : Sim K S (upd H p u) (put h p o) where
  fr := fun a s => by rw [put_ne (neS s (m.nS e))]; exact m.fr a s
  al := fun a s => by rw [upd_ne (neS s (m.nS e))]; exact m.al a s
  dj := m.dj
  ob := fun a o' q => by
    have f : Fut S H S (upd H p u) := fut_upd (m.nS e)
    by_cases c : a = p
    · subst c; rw [put_same] at q; cases q; exact ⟨u, upd_same, r.fut f⟩
    · rw [put_ne c] at q
      obtain ⟨w, q1, q2⟩ := m.ob a o' q
      exact ⟨w, by rw [upd_ne c]; exact q1, q2.fut f⟩
theorem Sim.write (m : Sim K S H h) {p : Addr} {u : HO} {o o' : O} (e : h p = some o) (r : RepO K S H u o') : Sim K S (upd H p u) (put h p o') where
  fr := fun a s => by rw [put_ne (neS s (m.nS' e))]; exact m.fr a s
  al := fun a s => by rw [upd_ne (neS s (m.nS' e))]; exact m.al a s
  dj := m.dj
  ob := fun a o2 q => by
    have f : Fut S H S (upd H p u) := fut_upd (m.nS' e)
    by_cases c : a = p
    · subst c; rw [put_same] at q; cases q; exact ⟨u, upd_same, r.fut f⟩
    · rw [put_ne c] at q
      obtain ⟨w, q1, q2⟩ := m.ob a o2 q
      exact ⟨w, by rw [upd_ne c]; exact q1, q2.fut f⟩
theorem Sim.side' (m : Sim K S H h) {p : Addr} {u : HO} (e : h p = none) (n : ¬ S.has p) : Sim K S (upd H p u) h where
  fr := m.fr
  al := fun a s => by rw [upd_ne (neS s n)]; exact m.al a s
  dj := m.dj
  ob := fun a o q => by
    obtain ⟨w, q1, q2⟩ := m.ob a o q
    exact ⟨w, by rw [upd_ne fun z => by rw [z, e] at q; cases q]; exact q1, q2.fut (fut_upd n)⟩
theorem Sim.side (m : Sim K S H h) {p : Addr} {u : HO} (e : H p = none) : Sim K S (upd H p u) h := m.side' (m.free e) (m.nS e)
def plus (S : Fz) (p : Addr) : Fz := ⟨fun a => S.s a ∨ a = p, S.p⟩
def prot (S : Fz) (p : Addr) : Fz := ⟨S.s, fun a => S.p a ∨ a = p⟩
theorem fut_plus {p : Addr} {H1 : Hp} (f : Fut S H S H1) : Fut S H (plus S p) H1 := ⟨fun _ s => .inl s, f.kp, rfl⟩
theorem Sim.plus (m : Sim K S H h) {p : Addr} (e : h p = none) (n : H p ≠ none) (d : ¬ S.p p) : Sim K (plus S p) H h where
  fr := fun a s => by
    rcases s with (s | s) | s
    · exact m.fr a (.inl s)
    · rw [s]; exact e
    · exact m.fr a (.inr s)
  al := fun a s => by
    rcases s with (s | s) | s
    · exact m.al a (.inl s)
    · rw [s]; exact n
    · exact m.al a (.inr s)
  dj := fun a s => by
    rcases s with s | s
    · exact m.dj a s
    · rw [s]; exact d
  ob := fun a o q => by
    obtain ⟨w, q1, q2⟩ := m.ob a o q
    exact ⟨w, q1, q2.fut (fut_plus Fut.refl)⟩
theorem Sim.frozen (m : Sim K S H h) {p : Addr} {u : HO} (e : H p = none) : Sim K (TL.plus S p) (upd H p u) h ∧ Fut S H (TL.plus S p) (upd H p u) :=
  ⟨(m.side e).plus (m.free e) (by rw [upd_same]; exact fun z => nomatch z) (fun z => m.nS e (.inr z)), fut_plus (fut_upd (m.nS e))⟩
theorem Sim.sub (m : Sim K S H h) {h' : Hq} (e : ∀ a o, h' a = some o → h a = some o) : Sim K S H h' where
  fr := fun a s => by
    cases q : h' a with
    | none => rfl
    | some o => exact absurd (e a o q) (by rw [m.fr a s]; exact fun z => nomatch z)
  al := m.al
  dj := m.dj
  ob := fun a o q => m.ob a o (e a o q)
theorem Sim.del (m : Sim K S H h) {p : Addr} : Sim K S H (TL.del h p) := m.sub fun a o q => by
  unfold TL.del at q; split at q
  · cases q
  · exact q
theorem Sim.freeze (m : Sim K S H h) {p : Addr} {o : O} (e : h p = some o) : Sim K (TL.plus S p) H (TL.del h p) := by
  obtain ⟨u, q, _⟩ := m.ob p o e
  exact m.del.plus (by unfold TL.del; rw [if_pos rfl]) (by rw [q]; exact fun z => nomatch z) (fun z => m.nS' e (.inr z))
theorem Sim.prot (m : Sim K S H h) {p : Addr} (e : h p = none) (n : H p ≠ none) (d : ¬ S.s p) : Sim K (TL.prot S p) H h where
  fr := fun a s => by
    rcases s with s | s | s
    · exact m.fr a (.inl s)
    · exact m.fr a (.inr s)
    · rw [s]; exact e
  al := fun a s => by
    rcases s with s | s | s
    · exact m.al a (.inl s)
    · exact m.al a (.inr s)
    · rw [s]; exact n
  dj := fun a s z => by
    rcases z with z | z
    · exact m.dj a s z
    · exact d (z ▸ s)
  ob := fun a o q => by
    obtain ⟨w, q1, q2⟩ := m.ob a o q
    exact ⟨w, q1, RepO.fut' (S := S) (S1 := TL.prot S p) (fun _ s => s) q2⟩
def unp (S S1 : Fz) : Fz := ⟨S1.s, S.p⟩
theorem Sim.unp {S1 : Fz} {H1 : Hp} {h1 : Hq} (m : Sim K S1 H1 h1) {p : Addr} (e : S1.p = (TL.prot S p).p) : Sim K (TL.unp S S1) H1 h1 where
  fr := fun a s => m.fr a (s.elim .inl fun z => .inr (by rw [e]; exact .inl z))
  al := fun a s => m.al a (s.elim .inl fun z => .inr (by rw [e]; exact .inl z))
  dj := fun a s z => m.dj a s (by rw [e]; exact .inl z)
  ob := fun a o q => by
    obtain ⟨w, q1, q2⟩ := m.ob a o q
    exact ⟨w, q1, RepO.fut' (S := S1) (S1 := TL.unp S S1) (fun _ s => s) q2⟩
theorem Fut.unp {S1 : Fz} {H1 : Hp} {p : Addr} (f : Fut (TL.prot S p) H S1 H1) : Fut S H (TL.unp S S1) H1 := ⟨fun a s => f.sub a s, fun a s => f.kp a (s.elim .inl fun z => .inr (.inl z)), rfl⟩
end

abbrev Sl := List (Option T)
structure RepS (K : PySem.W.Frag) (S : Fz) (H : Hp) (σ : L2.St) (s : Sl) : Prop where
  len : σ.length = s.length
  at_ : ∀ (i : Nat) t, s[i]? = some (some t) → ∃ v, σ[i]? = some (some v) ∧ Rep K S H v t
section
variable {K : PySem.W.Frag} {S S1 : Fz} {H H1 : Hp} {σ : L2.St} {s : Sl}
theorem RepS.fut (f : Fut S H S1 H1) (r : RepS K S H σ s) : RepS K S1 H1 σ s := ⟨r.len, fun i t e => by
  obtain ⟨v, h1, h2⟩ := r.at_ i t e
  exact ⟨v, h1, h2.fut f⟩⟩
theorem RepS.fu (f : Fu S H S1 H1) (r : RepS K S H σ s) : RepS K S1 H1 σ s := ⟨r.len, fun i t e => by
  obtain ⟨v, h1, h2⟩ := r.at_ i t e
  exact ⟨v, h1, h2.fu f⟩⟩
theorem RepS.set (r : RepS K S H σ s) {v : V} {t : T} (q : Rep K S H v t) (i : Nat) : RepS K S H (σ.set i (some v)) (s.set i (some t)) := ⟨by simp [r.len], fun j u e => by
  by_cases c : i = j
  · subst c
    have hl : i < s.length := by
      have := (List.getElem?_eq_some_iff.mp e).1
      simpa using this
    rw [List.getElem?_set_self hl] at e
    cases e
    exact ⟨v, by rw [List.getElem?_set_self (by rw [r.len]; exact hl)], q⟩
  · rw [List.getElem?_set_ne c] at e
    obtain ⟨w, h1, h2⟩ := r.at_ j u e
    exact ⟨w, by rw [List.getElem?_set_ne c]; exact h1, h2⟩⟩
theorem RepS.start {N : List Str} : ∀ {vs : List V} {ts : List T}, RepL K S H vs ts → vs.length ≤ N.length → RepS K S H (L2.start N vs) (ts.map some ++ List.replicate (N.length - ts.length) none) := fun {vs ts} r hl => by
  have e := r.length
  refine ⟨by simp [L2.start, e], fun i t q => ?_⟩
  by_cases c : i < ts.length
  · rw [List.getElem?_append_left (by simpa using c), List.getElem?_map] at q
    cases z : ts[i]? with
    | none => rw [z] at q; cases q
    | some y =>
      rw [z] at q
      cases q
      obtain ⟨x, h1, h2⟩ := r.get z
      refine ⟨x, ?_, h2⟩
      unfold L2.start
      rw [List.getElem?_append_left (by simpa [e] using c), List.getElem?_map, h1]
      rfl
  · rw [List.getElem?_append_right (by simpa using c), List.getElem?_replicate] at q
    split at q
    · cases q
    · cases q
theorem RepS.fut' (f : ∀ a, S.s a → S1.s a) (r : RepS K S H σ s) : RepS K S1 H σ s := ⟨r.len, fun i t e => by
  obtain ⟨v, h1, h2⟩ := r.at_ i t e
  exact ⟨v, h1, h2.fut' f⟩⟩
end
end TL

namespace TL
open PySem L2

structure Ex where
  cls : Value
  fs : List (Str × T)
abbrev EX := Ex → Sl → Hq → Prop
abbrev TK := T → Hq → Prop
abbrev EM := Sl → Hq → TK → EX → Prop
abbrev TM := Sl → Hq → (Bool → Hq → Prop) → EX → Prop
abbrev AM := Sl → Hq → (List T → Hq → Prop) → EX → Prop
abbrev OM := Sl → Hq → (Option Int → Hq → Prop) → EX → Prop
abbrev SK := Sl → Hq → Prop
abbrev GM := T → Sl → Hq → SK → EX → Prop
abbrev GMs := List T → Sl → Hq → SK → EX → Prop
abbrev IM := Sl → Hq → (List T → (Hq → Prop) → Hq → Prop) → EX → Prop
structure En where
  nx : SK
  rt : TK
  bk : SK := fun _ _ => False
  ct : SK := fun _ _ => False
  ex : EX := fun _ _ _ => False
abbrev SM := En → Sl → Hq → Prop
abbrev Con := List T → Hq → TK → (Ex → Hq → Prop) → Prop

def RepX (K : PySem.W.Frag) (S : Fz) (H : Hp) (cls : Value) (d : Option Addr) (x : Ex) : Prop :=
  cls = x.cls ∧ ((d = none ∧ x.fs = []) ∨ ∃ dd fs, d = some dd ∧ S.s dd ∧ H dd = some (.xd fs) ∧ RepF K S H fs x.fs)

def LkX (K : PySem.W.Frag) (W : WX) (S : Fz) (H : Hp) (E : EX) : Prop := ∀ S1 H1 h1 σ1 s1 x cls d, Fut S H S1 H1 → Sim K S1 H1 h1 → RepS K S1 H1 σ1 s1 → RepX K S1 H1 cls d x → E x s1 h1 → W cls d σ1 H1
def PK (K : PySem.W.Frag) (S : Fz) (H : Hp) (Q : TK) (Q' : VK) : Prop := ∀ S1 H1 h1 v u, Fut S H S1 H1 → Sim K S1 H1 h1 → Rep K S1 H1 v u → Q u h1 → Q' v H1
def PB (K : PySem.W.Frag) (S : Fz) (H : Hp) (Q : Bool → Hq → Prop) (Q' : Bool → Hp → Prop) : Prop := ∀ S1 H1 h1 b, Fut S H S1 H1 → Sim K S1 H1 h1 → Q b h1 → Q' b H1
def PL (K : PySem.W.Frag) (S : Fz) (H : Hp) (Q : List T → Hq → Prop) (Q' : List V → Hp → Prop) : Prop := ∀ S1 H1 h1 v u, Fut S H S1 H1 → Sim K S1 H1 h1 → RepL K S1 H1 v u → Q u h1 → Q' v H1
def PSl (K : PySem.W.Frag) (S : Fz) (H : Hp) (Q : SK) (Q' : L2.St → Hp → Prop) : Prop := ∀ S1 H1 h1 σ s, Fut S H S1 H1 → Sim K S1 H1 h1 → RepS K S1 H1 σ s → Q s h1 → Q' σ H1
structure LkD (K : PySem.W.Frag) (W : WX) (S : Fz) (H : Hp) (D : En) (D' : Ends) : Prop where
  nx : PSl K S H D.nx D'.nx
  rt : PK K S H D.rt D'.rt
  bk : PSl K S H D.bk D'.bk
  ct : PSl K S H D.ct D'.ct
  ex : LkX K W S H D.ex
section
variable {K : PySem.W.Frag} {W : WX} {S S1 : Fz} {H H1 : Hp}
theorem LkX.fut {E : EX} (l : LkX K W S H E) (f : Fut S H S1 H1) : LkX K W S1 H1 E := fun S2 H2 h2 σ s x c d g => l S2 H2 h2 σ s x c d (f.trans g)
theorem PK.fut {Q : TK} {Q' : VK} (l : PK K S H Q Q') (f : Fut S H S1 H1) : PK K S1 H1 Q Q' := fun S2 H2 h2 v u g => l S2 H2 h2 v u (f.trans g)
theorem PB.fut {Q : Bool → Hq → Prop} {Q' : Bool → Hp → Prop} (l : PB K S H Q Q') (f : Fut S H S1 H1) : PB K S1 H1 Q Q' := fun S2 H2 h2 v g => l S2 H2 h2 v (f.trans g)
theorem PL.fut {Q : List T → Hq → Prop} {Q' : List V → Hp → Prop} (l : PL K S H Q Q') (f : Fut S H S1 H1) : PL K S1 H1 Q Q' := fun S2 H2 h2 v u g => l S2 H2 h2 v u (f.trans g)
theorem PSl.fut {Q : SK} {Q' : L2.St → Hp → Prop} (l : PSl K S H Q Q') (f : Fut S H S1 H1) : PSl K S1 H1 Q Q' := fun S2 H2 h2 v u g => l S2 H2 h2 v u (f.trans g)
theorem LkD.fut {D : En} {D' : Ends} (l : LkD K W S H D D') (f : Fut S H S1 H1) : LkD K W S1 H1 D D' := ⟨l.nx.fut f, l.rt.fut f, l.bk.fut f, l.ct.fut f, l.ex.fut f⟩
end

def liftE (K : PySem.W.Frag) (W : WX) (m : EM) : TE := fun σ H Q' => ∃ S h s Q E, Sim K S H h ∧ RepS K S H σ s ∧ LkX K W S H E ∧ m s h Q E ∧ PK K S H Q Q'
def liftT (K : PySem.W.Frag) (W : WX) (m : TM) : TT := fun σ H Q' => ∃ S h s Q E, Sim K S H h ∧ RepS K S H σ s ∧ LkX K W S H E ∧ m s h Q E ∧ PB K S H Q Q'
def liftA (K : PySem.W.Frag) (W : WX) (m : AM) : TA := fun σ H Q' => ∃ S h s Q E, Sim K S H h ∧ RepS K S H σ s ∧ LkX K W S H E ∧ m s h Q E ∧ PL K S H Q Q'
def liftO (K : PySem.W.Frag) (W : WX) (m : OM) : TO := fun σ H Q' => ∃ S h s Q E, Sim K S H h ∧ RepS K S H σ s ∧ LkX K W S H E ∧ m s h Q E ∧ ∀ S1 H1 h1 o, Fut S H S1 H1 → Sim K S1 H1 h1 → Q o h1 → Q' o H1
def liftS (K : PySem.W.Frag) (W : WX) (m : SM) : TS := fun D' σ H => ∃ S h s D, Sim K S H h ∧ RepS K S H σ s ∧ LkD K W S H D D' ∧ m D s h
def liftG (K : PySem.W.Frag) (W : WX) (m : GM) : TG := fun v σ H Q' => ∃ S h s t Q E, Sim K S H h ∧ RepS K S H σ s ∧ Rep K S H v t ∧ LkX K W S H E ∧ m t s h Q E ∧ PSl K S H Q Q'
def liftGs (K : PySem.W.Frag) (W : WX) (m : GMs) : TGs := fun v σ H Q' => ∃ S h s t Q E, Sim K S H h ∧ RepS K S H σ s ∧ RepL K S H v t ∧ LkX K W S H E ∧ m t s h Q E ∧ PSl K S H Q Q'
def ItRep (K : PySem.W.Frag) (S : Fz) (H : Hp) (J : It) (ts : List T) (stay : Hq → Prop) : Prop := ∀ S1 H1 h1, Fu S H S1 H1 → Sim K S1 H1 h1 → stay h1 →
  (∀ (i : Nat) t, ts[i]? = some t → J.go i H1 ∧ ∀ x H2, J.yld i H1 x H2 → ∃ S2, Fut S1 H1 S2 H2 ∧ Sim K S2 H2 h1 ∧ Rep K S2 H2 x t) ∧ J.stop ts.length H1
def liftI (K : PySem.W.Frag) (W : WX) (m : IM) : TI := fun σ H R => ∃ S h s Q E, Sim K S H h ∧ RepS K S H σ s ∧ LkX K W S H E ∧ m s h Q E ∧ ∀ S1 H1 h1 J ts stay, Fut S H S1 H1 → Sim K S1 H1 h1 → ItRep K S1 H1 J ts stay → Q ts stay h1 → R J H1

def JE (X : Cx) (W : WX) (e : Expr) (m : EM) : Prop := PE X e (liftE X.K W m)
def JT (X : Cx) (W : WX) (e : Expr) (m : TM) : Prop := PT X e (liftT X.K W m)
def JW (X : Cx) (W : WX) (e : Expr) (m : TM) : Prop := PW X e (liftT X.K W m)
def JA (X : Cx) (W : WX) (es : List Expr) (m : AM) : Prop := PA X es (liftA X.K W m)
def JO (X : Cx) (W : WX) (e : Option Expr) (m : OM) : Prop := PO X e (liftO X.K W m)
def JS (X : Cx) (W : WX) (st : Stmt) (m : SM) : Prop := PS X st (liftS X.K W m)
def JSs (X : Cx) (W : WX) (st : List Stmt) (m : SM) : Prop := PSs X st (liftS X.K W m)
def JG (X : Cx) (W : WX) (e : Expr) (m : GM) : Prop := PG X e (liftG X.K W m)
def JGs (X : Cx) (W : WX) (e : List Expr) (m : GMs) : Prop := PGs X e (liftGs X.K W m)
def JI (X : Cx) (W : WX) (tg e : Expr) (m : IM) : Prop := PI X tg e (liftI X.K W m)

section
variable {X : Cx} {W : WX}
theorem _root_.L2.PE.wk {e : Expr} {t t' : TE} (p : PE X e t) (h : ∀ σ H Q, t' σ H Q → t σ H Q) : PE X e t' := ⟨fun pins s σ H Q I w => p.run pins s σ H Q I (h σ H Q w)⟩
theorem _root_.L2.PT.wk {e : Expr} {t t' : TT} (p : PT X e t) (h : ∀ σ H Q, t' σ H Q → t σ H Q) : PT X e t' := ⟨fun pins s σ H Q I w => p.run pins s σ H Q I (h σ H Q w)⟩
theorem _root_.L2.PW.wk {e : Expr} {t t' : TT} (p : PW X e t) (h : ∀ σ H Q, t' σ H Q → t σ H Q) : PW X e t' := ⟨fun wh pins s σ H Q I w => p.run wh pins s σ H Q I (h σ H Q w)⟩
theorem _root_.L2.PA.wk {e : List Expr} {t t' : TA} (p : PA X e t) (h : ∀ σ H Q, t' σ H Q → t σ H Q) : PA X e t' := ⟨fun pos pins s σ H Q I w => p.run pos pins s σ H Q I (h σ H Q w)⟩
theorem _root_.L2.PO.wk {e : Option Expr} {t t' : TO} (p : PO X e t) (h : ∀ σ H Q, t' σ H Q → t σ H Q) : PO X e t' := ⟨fun pins s σ H Q I w => p.run pins s σ H Q I (h σ H Q w)⟩
theorem _root_.L2.PS.wk {e : Stmt} {t t' : TS} (p : PS X e t) (h : ∀ D σ H, t' D σ H → t D σ H) : PS X e t' := ⟨fun pins s σ H D I w => p.run pins s σ H D I (h D σ H w)⟩
theorem _root_.L2.PSs.wk {e : List Stmt} {t t' : TS} (p : PSs X e t) (h : ∀ D σ H, t' D σ H → t D σ H) : PSs X e t' := ⟨fun pins s σ H D I w => p.run pins s σ H D I (h D σ H w)⟩
theorem _root_.L2.PG.wk {e : Expr} {t t' : TG} (p : PG X e t) (h : ∀ v σ H Q, t' v σ H Q → t v σ H Q) : PG X e t' := ⟨fun pins s σ H v u Q I r w => p.run pins s σ H v u Q I r (h v σ H Q w)⟩
theorem _root_.L2.PGs.wk {e : List Expr} {t t' : TGs} (p : PGs X e t) (h : ∀ v σ H Q, t' v σ H Q → t v σ H Q) : PGs X e t' := ⟨fun pins s σ H v u Q I r w => p.run pins s σ H v u Q I r (h v σ H Q w)⟩
theorem _root_.L2.PI.wk {tg e : Expr} {t t' : TI} (p : PI X tg e t) (h : ∀ σ H Q, t' σ H Q → t σ H Q) : PI X tg e t' := ⟨fun pins s σ H Q I w => p.run pins s σ H Q I (h σ H Q w)⟩

def eVar (i : Nat) : EM := fun s h Q _ => match s[i]? with
  | some (some t) => Q t h
  | _ => False
def eC (t : T) : EM := fun _ h Q _ => Q t h
theorem j_var (i : Nat) {x : Str} {pos : Pos} (hN : X.N[i]? = some x := by rfl) (hv : Vis X.env.scope x := by first | exact Or.inl rfl | exact Or.inr (Or.inl rfl) | exact Or.inr (Or.inr rfl)) (hd : (x == ("__debug__" : Str)) = false := by decide)
    (hcd : (x == ("__classdict__" : Str)) = false := by decide) : JE X W (.Name x pos) (eVar i) := (pe_var hN hv hd hcd).wk fun σ H Q' ⟨S, h, s, Q, E, m, rs, lk, hm, pk⟩ => by
  unfold eVar at hm
  split at hm
  · rename_i t e
    obtain ⟨v, e1, r⟩ := rs.at_ i t e
    exact ⟨v, e1, pk S H h v t Fut.refl m r hm⟩
  · exact hm.elim
theorem j_c {e : Expr} {v : V} {t : T} (p : PE X e (tC v)) (r : ∀ S H, Rep X.K S H v t) : JE X W e (eC t) := p.wk fun σ H Q' ⟨S, h, s, Q, E, m, rs, lk, hm, pk⟩ => pk S H h v t Fut.refl m (r S H) hm
theorem j_int {i j pos} : JE X W (.Constant (.int i) j pos) (eC (.int i)) := j_c pe_int fun _ _ => .int i
theorem j_bl {b j pos} : JE X W (.Constant (.bool b) j pos) (eC (.bl b)) := j_c pe_bl fun _ _ => .bl b
theorem j_non {j pos} : JE X W (.Constant .none j pos) (eC .non) := j_c pe_non fun _ _ => .non
theorem j_str {x j pos} : JE X W (.Constant (.str x) j pos) (eC (.str x)) := j_c pe_str fun _ _ => .str x
theorem j_globI {x : Str} {i : Int} {t : Tok} {pos : Pos} (hg : Gl X x) (hm : X.mg x = some (.int i t)) (hd : (x == ("__debug__" : Str)) = false := by decide) : JE X W (.Name x pos) (eC (.int i)) := j_c (v := .int i) (pe_glob hg hm ⟨t, rfl⟩ hd) fun _ _ => .int i
theorem j_globR {x : Str} {a : Addr} {pos : Pos} (hg : Gl X x) (hm : X.mg x = some (.ref a)) (hd : (x == ("__debug__" : Str)) = false := by decide) : JE X W (.Name x pos) (eC (.ref a)) := j_c (v := .ref a) (pe_glob hg hm rfl hd) fun _ _ => .ref a
theorem j_ty {x : Str} {n : String} {pos : Pos} (hg : Gl X x) (hm : X.mg x = none) (hv : bootBuiltins x = some (.type n)) (hn : x ≠ "__name__" := by decide) (hd : (x == ("__debug__" : Str)) = false := by decide) : JE X W (.Name x pos) (eC (.ty n)) := j_c (v := .ty n) (pe_bltn hg hm hv rfl hn hd) fun _ _ => .ty n

abbrev R2T := T → T → Hq → TK → Prop
def OP (K : PySem.W.Frag) (r : R2) (o : R2T) : Prop := ∀ S H h v w x y Q Q', Sim K S H h → Rep K S H v x → Rep K S H w y → o x y h Q → PK K S H Q Q' → r v w H Q'
def eOp (o : R2T) (a b : EM) : EM := fun s h Q E => a s h (fun x h1 => b s h1 (fun y h2 => o x y h2 Q) E) E
theorem lift_op {K : PySem.W.Frag} {r : R2} {o : R2T} {a b : EM} (op : OP K r o) : ∀ σ H Q, liftE K W (eOp o a b) σ H Q → tOp r (liftE K W a) (liftE K W b) σ H Q := fun σ H Q' ⟨S, h, s, Q, E, m, rs, lk, hm, pk⟩ =>
  ⟨S, h, s, _, E, m, rs, lk, hm, fun S1 H1 h1 v x f1 m1 r1 q1 => ⟨S1, h1, s, _, E, m1, rs.fut f1, lk.fut f1, q1, fun S2 H2 h2 w y f2 m2 r2 q2 => op S2 H2 h2 v w x y Q Q' m2 (r1.fut f2) r2 q2 (pk.fut (f1.trans f2))⟩⟩
theorem j_op {a b : Expr} {ma mb : EM} {op : Operator} {r : R2} {o : R2T} {pos : Pos} (ho : OpR X (binaryOp op) r) (p : OP X.K r o) (ha : JE X W a ma) (hb : JE X W b mb) : JE X W (.BinOp a op b pos) (eOp o ma mb) := PE.wk (pe_op ho ha hb) (lift_op p)
theorem j_cmp {a b : Expr} {ma mb : EM} {op : CmpOp} {r : R2} {o : R2T} {pos : Pos} (ho : OpR X (compareOp op) r) (p : OP X.K r o) (ha : JE X W a ma) (hb : JE X W b mb) (hm : behindInMarks op b = false) : JE X W (.Compare a [op] [b] pos) (eOp o ma mb) := PE.wk (pe_cmpR ho ha hb hm) (lift_op p)
def tOf (m : EM) : TM := fun s h Q E => m s h (fun x h1 => match x with
  | .bl b => Q b h1
  | _ => False) E
theorem lift_test {K : PySem.W.Frag} {m : EM} : ∀ σ H Q, liftT K W (tOf m) σ H Q → tTest (liftE K W m) σ H Q := fun σ H Q' ⟨S, h, s, Q, E, m, rs, lk, hm, pk⟩ =>
  ⟨S, h, s, _, E, m, rs, lk, hm, fun S1 H1 h1 v x f1 m1 r1 q1 => by
    split at q1
    · cases r1; exact ⟨_, rfl, pk S1 H1 h1 _ f1 m1 q1⟩
    · exact q1.elim⟩
theorem tTest_mono {t t' : TE} (h : ∀ σ H Q, t' σ H Q → t σ H Q) : ∀ σ H Q, tTest t' σ H Q → tTest t σ H Q := fun σ H _ q => h σ H _ q
theorem jt_cmp {a b : Expr} {ma mb : EM} {op : CmpOp} {r : R2} {o : R2T} {pos : Pos} (ho : OpR X (compareOp op) r) (p : OP X.K r o) (ha : JE X W a ma) (hb : JE X W b mb) (hm : behindInMarks op b = false) : JT X W (.Compare a [op] [b] pos) (tOf (eOp o ma mb)) :=
  PT.wk (pt_cmpR ho ha hb hm) fun σ H Q q => tTest_mono (lift_op p) σ H Q (lift_test σ H Q q)
def eChain (o o' : R2T) (a b c : EM) : EM := fun s h Q E => a s h (fun x h1 => b s h1 (fun y h2 => o x y h2 fun z h3 => match z with
  | .bl true => c s h3 (fun w h4 => o' y w h4 Q) E
  | .bl false => Q (.bl false) h3
  | _ => False) E) E
theorem lift_chain {K : PySem.W.Frag} {r r' : R2} {o o' : R2T} {a b c : EM} (op : OP K r o) (op' : OP K r' o') : ∀ σ H Q, liftE K W (eChain o o' a b c) σ H Q → tChain r r' (liftE K W a) (liftE K W b) (liftE K W c) σ H Q := fun σ H Q' ⟨S, h, s, Q, E, m, rs, lk, hm, pk⟩ =>
  ⟨S, h, s, _, E, m, rs, lk, hm, fun S1 H1 h1 v x f1 m1 r1 q1 => ⟨S1, h1, s, _, E, m1, rs.fut f1, lk.fut f1, q1, fun S2 H2 h2 w y f2 m2 r2 q2 =>
    op S2 H2 h2 v w x y _ _ m2 (r1.fut f2) r2 q2 fun S3 H3 h3 z' z f3 m3 r3 q3 => by
      split at q3
      · cases r3
        refine ⟨true, rfl, ?_⟩
        rw [if_pos rfl]
        exact ⟨S3, h3, s, _, E, m3, rs.fut ((f1.trans f2).trans f3), lk.fut ((f1.trans f2).trans f3), q3, fun S4 H4 h4 w' u f4 m4 r4 q4 => op' S4 H4 h4 w w' y u Q Q' m4 (r2.fut (f3.trans f4)) r4 q4 (pk.fut (((f1.trans f2).trans f3).trans f4))⟩
      · cases r3
        refine ⟨false, rfl, ?_⟩
        rw [if_neg Bool.false_ne_true]
        exact pk S3 H3 h3 _ _ ((f1.trans f2).trans f3) m3 (.bl false) q3
      · exact q3.elim⟩⟩
theorem j_chain {a b c : Expr} {ma mb mc : EM} {op op' : CmpOp} {r r' : R2} {o o' : R2T} {pos : Pos} (ho : OpR X (compareOp op) r) (p : OP X.K r o) (ho' : OpR X (compareOp op') r') (p' : OP X.K r' o') (ha : JE X W a ma) (hb : JE X W b mb) (hc : JE X W c mc) (hl : lastMarks [op, op'] [b, c] = false := by rfl) :
    JE X W (.Compare a [op, op'] [b, c] pos) (eChain o o' ma mb mc) := PE.wk (pe_chain ho ho' ha hb hc hl) (lift_chain p p')
def tAndM (a b : TM) : TM := fun s h Q E => a s h (fun c h1 => if c = true then b s h1 Q E else Q false h1) E
def tOrM (a b : TM) : TM := fun s h Q E => a s h (fun c h1 => if c = true then Q true h1 else b s h1 Q E) E
def tNotM (a : TM) : TM := fun s h Q E => a s h (fun c h1 => Q (!c) h1) E
theorem jw_and1 {a : Expr} {m : TM} {pos : Pos} (h : JT X W a m) : JW X W (.BoolOp .And [a] pos) m := pw_and1 h
theorem jw_or1 {a : Expr} {m : TM} {pos : Pos} (h : JT X W a m) : JW X W (.BoolOp .Or [a] pos) m := pw_or1 h
theorem jw_and {a b : Expr} {rest : List Expr} {ma mb : TM} {pos : Pos} (ha : JT X W a ma) (hb : JW X W (.BoolOp .And (b :: rest) pos) mb) : JW X W (.BoolOp .And (a :: b :: rest) pos) (tAndM ma mb) := PW.wk (pw_and ha hb) fun σ H Q' ⟨S, h, s, Q, E, m, rs, lk, hm, pk⟩ =>
  ⟨S, h, s, _, E, m, rs, lk, hm, fun S1 H1 h1 c f1 m1 q1 => by
    cases c with
    | true => rw [if_pos rfl] at q1 ⊢; exact ⟨S1, h1, s, Q, E, m1, rs.fut f1, lk.fut f1, q1, pk.fut f1⟩
    | false => rw [if_neg Bool.false_ne_true] at q1 ⊢; exact pk S1 H1 h1 _ f1 m1 q1⟩
theorem jw_or {a b : Expr} {rest : List Expr} {ma mb : TM} {pos : Pos} (ha : JT X W a ma) (hb : JW X W (.BoolOp .Or (b :: rest) pos) mb) : JW X W (.BoolOp .Or (a :: b :: rest) pos) (tOrM ma mb) := PW.wk (pw_or ha hb) fun σ H Q' ⟨S, h, s, Q, E, m, rs, lk, hm, pk⟩ =>
  ⟨S, h, s, _, E, m, rs, lk, hm, fun S1 H1 h1 c f1 m1 q1 => by
    cases c with
    | false => rw [if_neg Bool.false_ne_true] at q1 ⊢; exact ⟨S1, h1, s, Q, E, m1, rs.fut f1, lk.fut f1, q1, pk.fut f1⟩
    | true => rw [if_pos rfl] at q1 ⊢; exact pk S1 H1 h1 _ f1 m1 q1⟩
theorem jt_w {e : Expr} {m : TM} (h : JW X W e m) : JT X W e m := PW.pt h
theorem jt_not {a : Expr} {m : TM} {pos : Pos} (h : JT X W a m) : JT X W (.UnaryOp .Not a pos) (tNotM m) := PT.wk (pt_not h) fun σ H Q' ⟨S, h, s, Q, E, m, rs, lk, hm, pk⟩ =>
  ⟨S, h, s, _, E, m, rs, lk, hm, fun S1 H1 h1 c f1 m1 q1 => pk S1 H1 h1 _ f1 m1 q1⟩
def eAndV (a b : EM) : EM := fun s h Q E => a s h (fun x h1 => match x with
  | .bl true => b s h1 Q E
  | .bl false => Q (.bl false) h1
  | _ => False) E
def eOrV (a b : EM) : EM := fun s h Q E => a s h (fun x h1 => match x with
  | .bl true => Q (.bl true) h1
  | .bl false => b s h1 Q E
  | _ => False) E
def eNotV (a : EM) : EM := fun s h Q E => a s h (fun x h1 => match x with
  | .bl c => Q (.bl (!c)) h1
  | _ => False) E
theorem j_one {op : BoolOp} {a : Expr} {m : EM} {pos : Pos} (h : JE X W a m) : JE X W (.BoolOp op [a] pos) m := pe_one h
theorem j_and {a b : Expr} {rest : List Expr} {ma mb : EM} {pos : Pos} (ha : JE X W a ma) (hb : JE X W (.BoolOp .And (b :: rest) pos) mb) : JE X W (.BoolOp .And (a :: b :: rest) pos) (eAndV ma mb) := PE.wk (pe_and ha hb) fun σ H Q' ⟨S, h, s, Q, E, m, rs, lk, hm, pk⟩ =>
  ⟨S, h, s, _, E, m, rs, lk, hm, fun S1 H1 h1 v x f1 m1 r1 q1 => by
    split at q1
    · cases r1; refine ⟨true, rfl, ?_⟩; rw [if_pos rfl]; exact ⟨S1, h1, s, Q, E, m1, rs.fut f1, lk.fut f1, q1, pk.fut f1⟩
    · cases r1; refine ⟨false, rfl, ?_⟩; rw [if_neg Bool.false_ne_true]; exact pk S1 H1 h1 _ _ f1 m1 (.bl false) q1
    · exact q1.elim⟩
theorem j_or {a b : Expr} {rest : List Expr} {ma mb : EM} {pos : Pos} (ha : JE X W a ma) (hb : JE X W (.BoolOp .Or (b :: rest) pos) mb) : JE X W (.BoolOp .Or (a :: b :: rest) pos) (eOrV ma mb) := PE.wk (pe_or ha hb) fun σ H Q' ⟨S, h, s, Q, E, m, rs, lk, hm, pk⟩ =>
  ⟨S, h, s, _, E, m, rs, lk, hm, fun S1 H1 h1 v x f1 m1 r1 q1 => by
    split at q1
    · cases r1; refine ⟨true, rfl, ?_⟩; rw [if_pos rfl]; exact pk S1 H1 h1 _ _ f1 m1 (.bl true) q1
    · cases r1; refine ⟨false, rfl, ?_⟩; rw [if_neg Bool.false_ne_true]; exact ⟨S1, h1, s, Q, E, m1, rs.fut f1, lk.fut f1, q1, pk.fut f1⟩
    · exact q1.elim⟩
theorem j_not {a : Expr} {ma : EM} {pos : Pos} (ha : JE X W a ma) : JE X W (.UnaryOp .Not a pos) (eNotV ma) := PE.wk (pe_not ha) fun σ H Q' ⟨S, h, s, Q, E, m, rs, lk, hm, pk⟩ =>
  ⟨S, h, s, _, E, m, rs, lk, hm, fun S1 H1 h1 v x f1 m1 r1 q1 => by
    split at q1
    · cases r1; exact ⟨_, rfl, pk S1 H1 h1 _ _ f1 m1 (.bl _) q1⟩
    · exact q1.elim⟩
def eIf (c : TM) (a b : EM) : EM := fun s h Q E => c s h (fun d h1 => if d = true then a s h1 Q E else b s h1 Q E) E
theorem j_if {c a b : Expr} {mc : TM} {ma mb : EM} {pos : Pos} (hc : JT X W c mc) (ha : JE X W a ma) (hb : JE X W b mb) : JE X W (.IfExp c a b pos) (eIf mc ma mb) := PE.wk (pe_ifExp hc ha hb) fun σ H Q' ⟨S, h, s, Q, E, m, rs, lk, hm, pk⟩ =>
  ⟨S, h, s, _, E, m, rs, lk, hm, fun S1 H1 h1 c f1 m1 q1 => by
    cases c with
    | true => rw [if_pos rfl] at q1 ⊢; exact ⟨S1, h1, s, Q, E, m1, rs.fut f1, lk.fut f1, q1, pk.fut f1⟩
    | false => rw [if_neg Bool.false_ne_true] at q1 ⊢; exact ⟨S1, h1, s, Q, E, m1, rs.fut f1, lk.fut f1, q1, pk.fut f1⟩⟩

def aNil : AM := fun _ h Q _ => Q [] h
def aCons (a : EM) (r : AM) : AM := fun s h Q E => a s h (fun x h1 => r s h1 (fun xs h2 => Q (x :: xs) h2) E) E
theorem ja_nil : JA X W [] aNil := PA.wk pa_nil fun σ H Q' ⟨S, h, s, Q, E, m, rs, lk, hm, pk⟩ => pk S H h _ _ Fut.refl m .nil hm
end
end TL

namespace TL
open PySem L2
section
variable {X : Cx} {W : WX} {K : PySem.W.Frag} {S : Fz} {H : Hp} {h : Hq}
theorem ja_cons {e : Expr} {es : List Expr} {m : EM} {r : AM} (he : JE X W e m) (hr : JA X W es r) (hs : starEach (e :: es) X.env = (false, eval e X.env) :: starEach es X.env := by rfl) : JA X W (e :: es) (aCons m r) := PA.wk (pa_cons he hr hs) fun σ H Q' ⟨S, h, s, Q, E, m, rs, lk, hm, pk⟩ =>
  ⟨S, h, s, _, E, m, rs, lk, hm, fun S1 H1 h1 v x f1 m1 r1 q1 => ⟨S1, h1, s, _, E, m1, rs.fut f1, lk.fut f1, q1, fun S2 H2 h2 vs xs f2 m2 r2 q2 => pk S2 H2 h2 _ _ (f1.trans f2) m2 (.cons (r1.fut f2) r2) q2⟩⟩

def lsOf (h : Hq) : T → Option (List T)
  | .lst ts => some ts
  | .ref a => match h a with
    | some (.lst ts) => some ts
    | _ => none
  | _ => none
theorem lsOf_ok (m : Sim K S H h) {v : V} {x : T} {ts : List T} (r : Rep K S H v x) (e : lsOf h x = some ts) : ∃ a vs, v = .ref a ∧ H a = some (.lst vs) ∧ RepL K S H vs ts := by
  cases r with
  | lst s hh q => cases e; exact ⟨_, _, rfl, hh, q⟩
  | ref a =>
    simp only [lsOf] at e
    cases z : h a with
    | none => rw [z] at e; cases e
    | some o =>
      rw [z] at e
      cases o with
      | lst ts' =>
        cases e
        obtain ⟨u, e1, vs, e2, r2⟩ := m.ob a _ z
        subst e2
        exact ⟨a, vs, rfl, e1, r2⟩
      | ins C fs => cases e
      | pool => cases e
      | dK _ => cases e
      | dT _ => cases e
      | tab _ => cases e
      | dL _ _ => cases e
  | non => cases e
  | bl b => cases e
  | int i => cases e
  | str x => cases e
  | tup _ _ _ => cases e
  | tupK _ _ _ => cases e
  | ins _ _ _ => cases e
  | ty n => cases e
  | scr _ _ => cases e
  | scrK _ => cases e
  | exc _ _ _ => cases e
  | exc0 => cases e
  | xob _ _ _ _ _ _ => cases e
def mk (fl : Bool) (ts : List T) (h : Hq) (Q : TK) : Prop := if fl = true then Q (.lst ts) h else ∀ p, h p = none → Q (.ref p) (put h p (.lst ts))
@[simp] theorem mk_true {ts : List T} {h : Hq} {Q : TK} : mk true ts h Q = Q (.lst ts) h := by unfold mk; rw [if_pos rfl]
@[simp] theorem mk_false {ts : List T} {h : Hq} {Q : TK} : mk false ts h Q = ∀ p, h p = none → Q (.ref p) (put h p (.lst ts)) := by unfold mk; rw [if_neg Bool.false_ne_true]
theorem mk_ok (m : Sim K S H h) {fl : Bool} {vs : List V} {ts : List T} {Q : TK} {Q' : VK} (r : RepL K S H vs ts) (q : mk fl ts h Q) (pk : PK K S H Q Q') : ∀ p, H p = none → Q' (.ref p) (upd H p (.lst vs)) := fun p hp => by
  cases fl with
  | true =>
    rw [mk_true] at q
    obtain ⟨m1, f1⟩ := m.frozen (u := .lst vs) hp
    exact pk _ _ h _ _ f1 m1 (.lst (.inr rfl) upd_same (r.fut f1)) q
  | false =>
    rw [mk_false] at q
    exact pk S _ _ _ _ (fut_upd (m.nS hp)) (m.new (o := .lst ts) hp ⟨vs, rfl, r⟩) (.ref p) (q p (m.free hp))
theorem tup_ok (m : Sim K S H h) {vs : List V} {ts : List T} {Q : TK} {Q' : VK} (r : RepL K S H vs ts) (q : Q (.tup ts) h) (pk : PK K S H Q Q') : ∀ p, H p = none → Q' (.ref p) (upd H p (.tup vs)) := fun p hp => by
  obtain ⟨m1, f1⟩ := m.frozen (u := .tup vs) hp
  exact pk _ _ h _ _ f1 m1 (.tup (.inr rfl) upd_same (r.fut f1)) q
abbrev lim : Nat := 1000000
theorem lim_le {n : Nat} (h : n ≤ lim) : n ≤ sizeLine := Nat.le_trans h (by decide)
theorem lim_lt {n : Nat} (h : n ≤ lim) : n < sizeLine := Nat.lt_of_le_of_lt h (by decide)
def eTup (a : AM) : EM := fun s h Q E => a s h (fun ts h1 => ts.length ≤ lim ∧ Q (.tup ts) h1) E
def eLst (fl : Bool) (a : AM) : EM := fun s h Q E => a s h (fun ts h1 => ts.length ≤ lim ∧ mk fl ts h1 Q) E
theorem j_tup {es : List Expr} {a : AM} {x1} {pos : Pos} (ha : JA X W es a) : JE X W (.Tuple es x1 pos) (eTup a) := PE.wk (pe_tup ha) fun σ H Q' ⟨S, h, s, Q, E, m, rs, lk, hm, pk⟩ =>
  ⟨S, h, s, _, E, m, rs, lk, hm, fun S1 H1 h1 vs ts f1 m1 r1 ⟨l, q1⟩ => ⟨lim_le (by rw [r1.length]; exact l), tup_ok m1 r1 q1 (pk.fut f1)⟩⟩
theorem j_lst (fl : Bool) {es : List Expr} {a : AM} {pos : Pos} (ha : JA X W es a) : JE X W (.List es pos) (eLst fl a) := PE.wk (pe_lst ha) fun σ H Q' ⟨S, h, s, Q, E, m, rs, lk, hm, pk⟩ =>
  ⟨S, h, s, _, E, m, rs, lk, hm, fun S1 H1 h1 vs ts f1 m1 r1 ⟨l, q1⟩ => ⟨lim_le (by rw [r1.length]; exact l), mk_ok m1 r1 q1 (pk.fut f1)⟩⟩
def frzK (Q : TK) : TK := fun x h1 => match x with
  | .ref p => match h1 p with
    | some (.lst ts) => Q (.lst ts) (del h1 p)
    | some (.ins C gs) => Q (.ins C gs) (del h1 p)
    | _ => Q (.ref p) h1
  | x => Q x h1
def eFrz (a : EM) : EM := fun s h Q E => a s h (frzK Q) E
theorem frz_ok (m : Sim K S H h) {v : V} {x : T} {Q : TK} {Q' : VK} (r : Rep K S H v x) (pk : PK K S H Q Q') (q : frzK Q x h) : Q' v H := by
  unfold frzK at q
  cases r with
  | ref p =>
    dsimp only at q
    split at q
    · rename_i ts e
      obtain ⟨u, e1, vs, e2, r2⟩ := m.ob p _ e
      subst e2
      have f : Fut S H (plus S p) H := fut_plus Fut.refl
      exact pk _ H _ _ _ f (m.freeze e) (.lst (.inr rfl) e1 (r2.fut f)) q
    · rename_i C gs e
      obtain ⟨u, e1, dx, fs, e2, r2⟩ := m.ob p _ e
      subst e2
      have f : Fut S H (plus S p) H := fut_plus Fut.refl
      exact pk _ H _ _ _ f (m.freeze e) (.ins (.inr rfl) e1 (r2.fut f)) q
    · exact pk S H h _ _ Fut.refl m (.ref p) q
  | non => exact pk S H h _ _ Fut.refl m .non q
  | bl b => exact pk S H h _ _ Fut.refl m (.bl b) q
  | int i => exact pk S H h _ _ Fut.refl m (.int i) q
  | str x => exact pk S H h _ _ Fut.refl m (.str x) q
  | tup a b c => exact pk S H h _ _ Fut.refl m (.tup a b c) q
  | tupK a c b => exact pk S H h _ _ Fut.refl m (.tupK a c b) q
  | lst a b c => exact pk S H h _ _ Fut.refl m (.lst a b c) q
  | ins a b c => exact pk S H h _ _ Fut.refl m (.ins a b c) q
  | ty n => exact pk S H h _ _ Fut.refl m (.ty n) q
  | scr a b => exact pk S H h _ _ Fut.refl m (.scr a b) q
  | scrK b => exact pk S H h _ _ Fut.refl m (.scrK b) q
  | exc a b c => exact pk S H h _ _ Fut.refl m (.exc a b c) q
  | exc0 => exact pk S H h _ _ Fut.refl m .exc0 q
  | xob a b c d e f => exact pk S H h _ _ Fut.refl m (.xob a b c d e f) q
theorem j_frz {e : Expr} {a : EM} (he : JE X W e a) : JE X W e (eFrz a) := PE.wk he fun σ H Q' ⟨S, h, s, Q, E, m, rs, lk, hm, pk⟩ =>
  ⟨S, h, s, _, E, m, rs, lk, hm, fun S1 H1 h1 v x f1 m1 r1 q1 => frz_ok m1 r1 (pk.fut f1) q1⟩

def MulOk (i j : Int) : Prop := i.natAbs < 2 ^ 64 ∨ j.natAbs < 2 ^ 64 ∨ (i.natAbs < 2 ^ 250 ∧ j.natAbs < 2 ^ 250)
def oI (g : Int → Int → T) : R2T := fun x y h Q => match x, y with
  | .int i, .int j => Q (g i j) h
  | _, _ => False
theorem op_I {g : Int → Int → V} {g' : Int → Int → T} (e : ∀ S H i j, Rep K S H (g i j) (g' i j)) : OP K (rI0 g) (oI g') := fun S H h v w x y Q Q' m r1 r2 q pk => by
  cases r1 <;> cases r2 <;> first | exact q.elim | skip
  exact ⟨_, _, rfl, rfl, pk S H h _ _ Fut.refl m (e S H _ _) q⟩
def oIC (C : Int → Int → Prop) (g : Int → Int → T) : R2T := fun x y h Q => match x, y with
  | .int i, .int j => C i j ∧ Q (g i j) h
  | _, _ => False
theorem op_IC {C C' : Int → Int → Prop} {g : Int → Int → V} {g' : Int → Int → T} (c : ∀ i j, C' i j → C i j) (e : ∀ S H i j, Rep K S H (g i j) (g' i j)) : OP K (rI C g) (oIC C' g') := fun S H h v w x y Q Q' m r1 r2 q pk => by
  cases r1 <;> cases r2 <;> first | exact q.elim | skip
  exact ⟨_, _, rfl, rfl, c _ _ q.1, pk S H h _ _ Fut.refl m (e S H _ _) q.2⟩
theorem OP.or {r r' : R2} {o o' u : R2T} (a : OP K r o) (b : OP K r' o') (c : ∀ x y h Q, u x y h Q → o x y h Q ∨ o' x y h Q) : OP K (fun x y H Q => r x y H Q ∨ r' x y H Q) u := fun S H h v w x y Q Q' m r1 r2 q pk => by
  rcases c x y h Q q with q | q
  · exact .inl (a S H h v w x y Q Q' m r1 r2 q pk)
  · exact .inr (b S H h v w x y Q Q' m r1 r2 q pk)

def oSub : R2T := oI fun i j => .int (i - j)
def oMod : R2T := oIC (fun _ j => 0 < j) fun i j => .int (i % j)
def oDiv : R2T := oIC (fun _ j => 0 < j ∧ j < 2 ^ 250) fun i j => .int (i / j)
def oPow : R2T := oIC (fun i j => 0 ≤ j ∧ j ≤ 1000 ∧ i.natAbs < 2 ^ 64) fun i j => .int (i ^ j.toNat)
def oLt : R2T := oI fun i j => .bl (decide (i < j))
def oLe : R2T := oI fun i j => .bl (decide (i ≤ j))
def oGt : R2T := oI fun i j => .bl (decide (j < i))
def oGe : R2T := oI fun i j => .bl (decide (j ≤ i))
theorem p_sub : OP K (rI0 fun i j => .int (i - j)) oSub := op_I fun _ _ _ _ => .int _
theorem p_mod : OP K (rI (fun _ j => 0 < j) fun i j => .int (i % j)) oMod := op_IC (fun _ _ c => c) fun _ _ _ _ => .int _
theorem p_div : OP K (rI CDivW fun i j => .int (i / j)) oDiv := op_IC (fun i j c => wide_div (b := 250) c.1 (by have := c.1; have := c.2; omega) (by decide) (by decide)) fun _ _ _ _ => .int _
theorem p_pow : OP K (rI CPow fun i j => .int (i ^ j.toNat)) oPow := op_IC (fun i j c => ⟨c.1, by have := c.2.1; omega, c.2.2⟩) fun _ _ _ _ => .int _
theorem p_lt : OP K (rI0 fun i j => .bl (decide (i < j))) oLt := op_I fun _ _ _ _ => .bl _
theorem p_le : OP K (rI0 fun i j => .bl (decide (i ≤ j))) oLe := op_I fun _ _ _ _ => .bl _
theorem p_gt : OP K (rI0 fun i j => .bl (decide (j < i))) oGt := op_I fun _ _ _ _ => .bl _
theorem p_ge : OP K (rI0 fun i j => .bl (decide (j ≤ i))) oGe := op_I fun _ _ _ _ => .bl _
def oAdd (fl : Bool) : R2T := fun x y h Q => match x, y with
  | .int i, .int j => Q (.int (i + j)) h
  | .str a, .str b => a.length + b.length ≤ lim ∧ Q (.str (a ++ b)) h
  | x, y => match lsOf h x, lsOf h y with
    | some xs, some ys => xs.length + ys.length ≤ lim ∧ mk fl (xs ++ ys) h Q
    | _, _ => False
def rAdd : R2 := fun x y H Q => (∃ i j, x = .int i ∧ y = .int j ∧ Q (.int (i + j)) H) ∨ (∃ i j, x = .str i ∧ y = .str j ∧ i.length + j.length ≤ sizeLine ∧ Q (.str (i ++ j)) H) ∨ rCat x y H Q
theorem o_add : OpR X (binaryOp .Add) rAdd := OpR.or op_add (OpR.or op_add_str op_cat)
theorem p_add (fl : Bool) : OP K rAdd (oAdd fl) := fun S H h v w x y Q Q' m r1 r2 q pk => by
  unfold oAdd at q
  split at q
  · cases r1; cases r2; exact .inl ⟨_, _, rfl, rfl, pk S H h _ _ Fut.refl m (.int _) q⟩
  · cases r1; cases r2; exact .inr (.inl ⟨_, _, rfl, rfl, lim_le q.1, pk S H h _ _ Fut.refl m (.str _) q.2⟩)
  · split at q
    · rename_i xs ys e1 e2
      obtain ⟨a, vs, rfl, ha, ra⟩ := lsOf_ok m r1 e1
      obtain ⟨b, ws, rfl, hb, rb⟩ := lsOf_ok m r2 e2
      exact .inr (.inr ⟨a, b, vs, ws, rfl, rfl, ha, hb, lim_le (by rw [ra.length, rb.length]; exact q.1), mk_ok m (ra.append rb) q.2 pk⟩)
    · exact q.elim
def oMul (fl : Bool) : R2T := fun x y h Q => match x, y with
  | .int i, .int j => MulOk i j ∧ Q (.int (i * j)) h
  | x, .int k => match lsOf h x with
    | some xs => 0 ≤ k ∧ k ≤ 1000000 ∧ xs.length * k.toNat ≤ lim ∧ mk fl (List.replicate k.toNat xs).flatten h Q
    | none => False
  | _, _ => False
def rMulA : R2 := fun x y H Q => rI CMul (fun i j => .int (i * j)) x y H Q ∨ rI CMulW (fun i j => .int (i * j)) x y H Q ∨ rRep x y H Q
theorem o_mul : OpR X (binaryOp .Mult) rMulA := OpR.or op_mul (OpR.or op_mulW op_rep)
theorem p_mul (fl : Bool) : OP K rMulA (oMul fl) := fun S H h v w x y Q Q' m r1 r2 q pk => by
  unfold oMul at q
  split at q
  · cases r1; cases r2
    rename_i i j
    have fin := pk S H h _ _ Fut.refl m (.int (i * j)) q.2
    rcases q.1 with c | c | ⟨c, d⟩
    · exact .inl ⟨_, _, rfl, rfl, .inl (by omega), fin⟩
    · exact .inl ⟨_, _, rfl, rfl, .inr (by omega), fin⟩
    · exact .inr (.inl ⟨_, _, rfl, rfl, wide_mul (a := 250) (b := 250) c d (by decide) (by decide) (by decide), fin⟩)
  · split at q
    · rename_i xs e1
      obtain ⟨a, vs, rfl, ha, ra⟩ := lsOf_ok m r1 e1
      obtain ⟨k0, k1, k2, q⟩ := q
      cases r2
      exact .inr (.inr ⟨a, _, vs, rfl, rfl, ha, by omega, by omega, lim_le (by rw [ra.length]; exact k2), mk_ok m (ra.replicate _) q pk⟩)
    · exact q.elim
  · exact q.elim
def eNeg (a : EM) : EM := fun s h Q E => a s h (fun x h1 => match x with
  | .int i => Q (.int (-i)) h1
  | _ => False) E
theorem j_neg {a : Expr} {m : EM} {pos : Pos} (ha : JE X W a m) : JE X W (.UnaryOp .USub a pos) (eNeg m) := PE.wk (pe_un un_neg ha) fun σ H Q' ⟨S, h, s, Q, E, m, rs, lk, hm, pk⟩ =>
  ⟨S, h, s, _, E, m, rs, lk, hm, fun S1 H1 h1 v x f1 m1 r1 q1 => by
    split at q1
    · cases r1; exact ⟨_, rfl, pk S1 H1 h1 _ _ f1 m1 (.int _) q1⟩
    · exact q1.elim⟩
def oIsN : R2T := fun x y h Q => match y with
  | .non => match x with
    | .non => Q (.bl true) h
    | _ => Q (.bl false) h
  | _ => False
def oNotN : R2T := fun x y h Q => match y with
  | .non => match x with
    | .non => Q (.bl false) h
    | _ => Q (.bl true) h
  | _ => False
theorem p_isN : OP K (fun x y H Q => y = .non ∧ Q (.bl (decide (x = .non))) H) oIsN := fun S H h v w x y Q Q' m r1 r2 q pk => by
  cases r2 <;> first | exact q.elim | skip
  refine ⟨rfl, ?_⟩
  cases r1 <;> first
    | exact pk S H h _ _ Fut.refl m (.bl true) q
    | exact pk S H h _ _ Fut.refl m (.bl false) q
theorem p_notN : OP K (fun x y H Q => y = .non ∧ Q (.bl (!decide (x = .non))) H) oNotN := fun S H h v w x y Q Q' m r1 r2 q pk => by
  cases r2 <;> first | exact q.elim | skip
  refine ⟨rfl, ?_⟩
  cases r1 <;> first
    | exact pk S H h _ _ Fut.refl m (.bl false) q
    | exact pk S H h _ _ Fut.refl m (.bl true) q

mutual
def toD : T → Option PyData
  | .non => some .none
  | .bl b => some (.bool b)
  | .int i => some (.int i)
  | .str x => if PyData.strOk x = true then some (.str x) else none
  | .tup ts => (toDs ts).map .tuple
  | .lst ts => (toDs ts).map .list
  | _ => none
def toDs : List T → Option (List PyData)
  | [] => some []
  | t :: ts => match toD t, toDs ts with
    | some d, some ds => some (d :: ds)
    | _, _ => none
end
mutual
theorem toD_ok : ∀ {t : T} {v : V} {d : PyData}, Rep K S H v t → toD t = some d → Dp K H v d ∧ d.canLay0 = true
  | _, _, d, .non, e => by cases e; exact ⟨.non, rfl⟩
  | _, _, d, .bl b, e => by cases e; exact ⟨.bl b, rfl⟩
  | _, _, d, .int i, e => by cases e; exact ⟨.int i, rfl⟩
  | _, _, d, .str x, e => by
    unfold toD at e
    split at e
    · rename_i hs; cases e; exact ⟨.str x, by unfold PyData.canLay0; exact hs⟩
    · cases e
  | .tup ts, _, d, .tup s hh r, e => by
    unfold toD at e
    cases z : toDs ts with
    | none => rw [z] at e; cases e
    | some ds => rw [z] at e; cases e; exact ⟨.tup (SqT.of hh) (toDs_ok r z).1, by unfold PyData.canLay0; exact (toDs_ok r z).2⟩
  | .tup ts, _, d, .tupK hh _ r, e => by
    unfold toD at e
    cases z : toDs ts with
    | none => rw [z] at e; cases e
    | some ds => rw [z] at e; cases e; exact ⟨.tup (.inr hh) (toDs_ok r z).1, by unfold PyData.canLay0; exact (toDs_ok r z).2⟩
  | .lst ts, _, d, .lst s hh r, e => by
    unfold toD at e
    cases z : toDs ts with
    | none => rw [z] at e; cases e
    | some ds => rw [z] at e; cases e; exact ⟨.lst (SqL.of hh) (toDs_ok r z).1, by unfold PyData.canLay0; exact (toDs_ok r z).2⟩
  | _, _, d, .ins _ _ _, e => by cases e
  | _, _, d, .ref _, e => by cases e
  | _, _, d, .ty _, e => by cases e
  | _, _, d, .scr _ _, e => by cases e
  | _, _, d, .scrK _, e => by cases e
theorem toDs_ok : ∀ {ts : List T} {vs : List V} {ds : List PyData}, RepL K S H vs ts → toDs ts = some ds → DpAll K H vs ds ∧ PyData.canLayAll0 ds = true
  | _, _, ds, .nil, e => by cases e; exact ⟨.nil, rfl⟩
  | t :: ts, _, ds, .cons r q, e => by
    unfold toDs at e
    split at e
    · rename_i d ds' e1 e2
      cases e
      obtain ⟨a1, a2⟩ := toD_ok r e1
      obtain ⟨b1, b2⟩ := toDs_ok q e2
      exact ⟨.cons a1 b1, by unfold PyData.canLayAll0; rw [a2, b2]; rfl⟩
    · cases e
end
def view (h : Hq) : T → T
  | .ref a => match h a with
    | some (.lst ts) => .lst ts
    | _ => .ref a
  | x => x
def eqT (x y : T) : Bool := match toD x, toD y with
  | some d, some e => PyData.eqv d e
  | _, _ => false
def depth? (x : T) : Bool := match toD x with
  | some d => decide (d.depth ≤ 64)
  | none => false
theorem view_ok (m : Sim K S H h) {v : V} {x : T} {d : PyData} (r : Rep K S H v x) (e : toD (view h x) = some d) : Dp K H v d ∧ d.canLay0 = true := by
  cases r with
  | ref a =>
    simp only [view] at e
    cases z : h a with
    | none => rw [z] at e; cases e
    | some o =>
      rw [z] at e
      cases o with
      | lst ts =>
        obtain ⟨u, e1, vs, e2, r2⟩ := m.ob a _ z
        subst e2
        have f : Fut S H (plus S a) H := fut_plus Fut.refl
        exact toD_ok (S := plus S a) (.lst (.inr rfl) e1 (r2.fut f)) e
      | ins C fs => cases e
      | pool => cases e
      | dK _ => cases e
      | dT _ => cases e
      | tab _ => cases e
      | dL _ _ => cases e
  | non => exact toD_ok (S := S) .non e
  | bl b => exact toD_ok (S := S) (.bl b) e
  | int i => exact toD_ok (S := S) (.int i) e
  | str x => exact toD_ok (S := S) (.str x) e
  | tup a b c => exact toD_ok (.tup a b c) e
  | tupK a c b => exact toD_ok (.tupK a c b) e
  | lst a b c => exact toD_ok (.lst a b c) e
  | ins a b c => exact toD_ok (.ins a b c) e
  | ty n => exact toD_ok (S := S) (.ty n) e
  | scr a b => exact toD_ok (.scr a b) e
  | scrK b => exact toD_ok (S := S) (.scrK b) e
  | exc a b c => exact toD_ok (.exc a b c) e
  | exc0 => exact toD_ok (S := S) .exc0 e
  | xob a b c d f g => exact toD_ok (.xob a b c d f g) e
def oEq : R2T := fun x y h Q => depth? (view h x) = true ∧ depth? (view h y) = true ∧ Q (.bl (eqT (view h x) (view h y))) h
def oNe : R2T := fun x y h Q => depth? (view h x) = true ∧ depth? (view h y) = true ∧ Q (.bl (!eqT (view h x) (view h y))) h
theorem depth?_ok {x : T} (e : depth? x = true) : ∃ d, toD x = some d ∧ d.depth ≤ 64 := by
  unfold depth? at e
  split at e
  · exact ⟨_, by assumption, of_decide_eq_true e⟩
  · cases e
theorem p_eq : OP K (rEqD K) oEq := fun S H h v w x y Q Q' m r1 r2 q pk => by
  obtain ⟨q1, q2, q⟩ := q
  obtain ⟨d, e1, n1⟩ := depth?_ok q1
  obtain ⟨e, e2, n2⟩ := depth?_ok q2
  obtain ⟨a1, a2⟩ := view_ok m r1 e1
  obtain ⟨b1, b2⟩ := view_ok m r2 e2
  unfold eqT at q
  rw [e1, e2] at q
  exact ⟨d, e, a1, b1, by unfold SeqAt.shaped; rw [a2]; simpa using n1, by unfold SeqAt.shaped; rw [b2]; simpa using n2, pk S H h _ _ Fut.refl m (.bl _) q⟩
theorem p_ne : OP K (rNeD K) oNe := fun S H h v w x y Q Q' m r1 r2 q pk => by
  obtain ⟨q1, q2, q⟩ := q
  obtain ⟨d, e1, n1⟩ := depth?_ok q1
  obtain ⟨e, e2, n2⟩ := depth?_ok q2
  obtain ⟨a1, a2⟩ := view_ok m r1 e1
  obtain ⟨b1, b2⟩ := view_ok m r2 e2
  unfold eqT at q
  rw [e1, e2] at q
  exact ⟨d, e, a1, b1, by unfold SeqAt.shaped; rw [a2]; simpa using n1, by unfold SeqAt.shaped; rw [b2]; simpa using n2, pk S H h _ _ Fut.refl m (.bl _) q⟩
end
end TL

namespace TL
open PySem L2
section
variable {X : Cx} {W : WX} {K : PySem.W.Frag} {S : Fz} {H : Hp} {h : Hq}
theorem atI_rep {vs : List V} {ts : List T} {i : Int} {t : T} (r : RepL K S H vs ts) (e : atI ts i = some t) : ∃ v, atI vs i = some v ∧ Rep K S H v t := by
  unfold atI at *
  rw [r.length]
  cases z : ixN ts.length i with
  | none => rw [z] at e; cases e
  | some j => rw [z] at e; exact r.get e
def atK (ts : List T) (i : Int) (h : Hq) (Q : TK) : Prop := match atI ts i with
  | some t => Q t h
  | none => False
def oIx : R2T := fun x y h Q => match y with
  | .int i => match x with
    | .tup ts => atK ts i h Q
    | .scr ns => atK (ns.map T.int) i h Q
    | .str z => z.length ≤ lim ∧ match atI z.cps.toList i with
      | some c => Q (.str ⟨#[c]⟩) h
      | none => False
    | x => match lsOf h x with
      | some ts => atK ts i h Q
      | none => False
  | _ => False
theorem atK_ok (m : Sim K S H h) {vs : List V} {ts : List T} {i : Int} {Q : TK} {Q' : VK} (r : RepL K S H vs ts) (q : atK ts i h Q) (pk : PK K S H Q Q') : ∃ v, atI vs i = some v ∧ Q' v H := by
  unfold atK at q
  split at q
  · rename_i t e
    obtain ⟨v, e1, r1⟩ := atI_rep r e
    exact ⟨v, e1, pk S H h _ _ Fut.refl m r1 q⟩
  · exact q.elim
theorem p_ix : OP K (rIx K) oIx := fun S H h v w x y Q Q' m r1 r2 q pk => by
  unfold oIx at q
  split at q
  · rename_i i
    cases r2
    split at q
    · rename_i ts
      cases r1 with
      | tup s hh r => obtain ⟨u, e, q'⟩ := atK_ok m r q pk; exact .inr (.inl ⟨_, _, i, u, rfl, rfl, SqT.of hh, e, q'⟩)
      | tupK hh kx r => obtain ⟨u, e, q'⟩ := atK_ok m r q pk; exact .inr (.inl ⟨_, _, i, u, rfl, rfl, .inr hh, e, q'⟩)
    · obtain ⟨a, rfl, hh, _⟩ := r1.scr_sq
      obtain ⟨u, e, q'⟩ := atK_ok m (RepL.of_ints _) q pk
      exact .inl ⟨_, _, i, u, rfl, rfl, hh, e, q'⟩
    · cases r1
      obtain ⟨l, q⟩ := q
      split at q
      · rename_i c e
        exact .inr (.inr ⟨_, i, c, rfl, rfl, lim_le l, e, pk S H h _ _ Fut.refl m (.str _) q⟩)
      · exact q.elim
    · split at q
      · rename_i ts e
        obtain ⟨a, vs, rfl, ha, r⟩ := lsOf_ok m r1 e
        obtain ⟨u, e, q'⟩ := atK_ok m r q pk
        exact .inl ⟨a, vs, i, u, rfl, rfl, SqL.of ha, e, q'⟩
      · exact q.elim
  · exact q.elim
theorem j_ix {a b : Expr} {ma mb : EM} {pos : Pos} (ha : JE X W a ma) (hb : JE X W b mb) (hs : PlainIx b := by intro _ _; rfl) : JE X W (.Subscript a b pos) (eOp oIx ma mb) := PE.wk (pe_ix ix_seq ha hb hs) (lift_op p_ix)
def mNo : OM := fun _ h Q _ => Q none h
def mPart (a : EM) : OM := fun s h Q E => a s h (fun x h1 => match x with
  | .int i => Q (some i) h1
  | _ => False) E
theorem jo_some {e : Expr} {m : EM} (he : JE X W e m) : JO X W (some e) (mPart m) := PO.wk (po_some he) fun σ H Q' ⟨S, h, s, Q, E, m, rs, lk, hm, pk⟩ =>
  ⟨S, h, s, _, E, m, rs, lk, hm, fun S1 H1 h1 v x f1 m1 r1 q1 => by
    split at q1
    · cases r1; exact ⟨_, rfl, pk S1 H1 h1 _ f1 m1 q1⟩
    · exact q1.elim⟩
def cutT (ts : List T) (lo hi : Option Int) : List T := (ts.drop (HT.sIx ts.length 0 lo)).take (HT.sIx ts.length ts.length hi - HT.sIx ts.length 0 lo)
theorem cut_rep {vs : List V} {ts : List T} (r : RepL K S H vs ts) (lo hi : Option Int) : RepL K S H (cutV vs lo hi) (cutT ts lo hi) := by
  unfold cutV cutT
  rw [r.length]
  exact (r.drop _).take _
def eSl (fl : Bool) (a : EM) (l u : OM) : EM := fun s h Q E => a s h (fun x h1 => l s h1 (fun lo h2 => u s h2 (fun hi h3 => match x with
  | .scr ns => mk fl (cutT (ns.map T.int) lo hi) h3 Q
  | x => match lsOf h3 x with
    | some ts => mk fl (cutT ts lo hi) h3 Q
    | none => False) E) E) E
theorem j_sl (fl : Bool) {a : Expr} {lo hi : Option Expr} {ma : EM} {ml mh : OM} {p2 pos : Pos} (ha : JE X W a ma) (hl : JO X W lo ml) (hh : JO X W hi mh) : JE X W (.Subscript a (.Slice lo hi none p2) pos) (eSl fl ma ml mh) := PE.wk (pe_slice sl_list ha hl hh) fun σ H Q' ⟨S, h, s, Q, E, m, rs, lk, hm, pk⟩ =>
  ⟨S, h, s, _, E, m, rs, lk, hm, fun S1 H1 h1 v x f1 m1 r1 q1 => ⟨S1, h1, s, _, E, m1, rs.fut f1, lk.fut f1, q1, fun S2 H2 h2 l f2 m2 q2 => ⟨S2, h2, s, _, E, m2, rs.fut (f1.trans f2), lk.fut (f1.trans f2), q2, fun S3 H3 h3 u f3 m3 q3 => by
    have r3 := r1.fut (f2.trans f3)
    split at q3
    · obtain ⟨a, rfl, hh, _⟩ := r3.scr_sq
      exact ⟨_, _, rfl, hh, mk_ok m3 (cut_rep (RepL.of_ints _) l u) q3 (pk.fut ((f1.trans f2).trans f3))⟩
    · split at q3
      · rename_i ts e
        obtain ⟨a, vs, rfl, ha, r⟩ := lsOf_ok m3 r3 e
        exact ⟨a, vs, rfl, SqL.of ha, mk_ok m3 (cut_rep r l u) q3 (pk.fut ((f1.trans f2).trans f3))⟩
      · exact q3.elim⟩⟩⟩

abbrev RLT := List T → Hq → TK → Prop
def CP (K : PySem.W.Frag) (r : List V → Hp → VK → Prop) (o : RLT) : Prop := ∀ S H h vs xs Q Q', Sim K S H h → RepL K S H vs xs → o xs h Q → PK K S H Q Q' → r vs H Q'
def eCB (o : RLT) (a : AM) : EM := fun s h Q E => a s h (fun xs h1 => o xs h1 Q) E
theorem lift_cb {r : List V → Hp → VK → Prop} {o : RLT} {a : AM} (c : CP K r o) : ∀ σ H Q, liftE K W (eCB o a) σ H Q → tCB r (liftA K W a) σ H Q := fun σ H Q' ⟨S, h, s, Q, E, m, rs, lk, hm, pk⟩ =>
  ⟨S, h, s, _, E, m, rs, lk, hm, fun S1 H1 h1 vs xs f1 m1 r1 q1 => c S1 H1 h1 vs xs Q Q' m1 r1 q1 (pk.fut f1)⟩
theorem j_cb {x : Str} {id : String} {e : Expr} {es : List Expr} {a : AM} {r : List V → Hp → VK → Prop} {o : RLT} {p pos : Pos} (hc : CallR X (.builtin id) r) (c : CP X.K r o) (hg : Gl X x) (hm : X.mg x = none) (hv : bootBuiltins x = some (.builtin id)) (ha : JA X W (e :: es) a)
    (hn : x ≠ "__name__" := by decide) (hdb : (x == ("__debug__" : Str)) = false := by decide) (he : starEach (e :: es) X.env = (false, eval e X.env) :: starEach es X.env := by rfl) (hpl : (backTo pos (starEach es X.env)).any (·.1) = false := by rfl) :
    JE X W (.Call (.Name x p) (e :: es) [] pos) (eCB o a) := PE.wk (pe_callB hc hg hm hv ha hn hdb he hpl) (lift_cb c)
theorem j_cty {x : Str} {id : String} {e : Expr} {es : List Expr} {a : AM} {r : List V → Hp → VK → Prop} {o : RLT} {p pos : Pos} (hc : CallR X (.type id) r) (c : CP X.K r o) (hg : Gl X x) (hm : X.mg x = none) (hv : bootBuiltins x = some (.type id)) (ha : JA X W (e :: es) a)
    (hn : x ≠ "__name__" := by decide) (hdb : (x == ("__debug__" : Str)) = false := by decide) (he : starEach (e :: es) X.env = (false, eval e X.env) :: starEach es X.env := by rfl) (hpl : (backTo pos (starEach es X.env)).any (·.1) = false := by rfl) :
    JE X W (.Call (.Name x p) (e :: es) [] pos) (eCB o a) := PE.wk (pe_callTy hc hg hm hv ha hn hdb he hpl) (lift_cb c)
def oLen : RLT := fun xs h Q => match xs with
  | [.tup ts] => Q (.int ts.length) h
  | [.scr ns] => Q (.int ns.length) h
  | [.str z] => z.length ≤ lim ∧ Q (.int z.length) h
  | [x] => match lsOf h x with
    | some ts => Q (.int ts.length) h
    | none => False
  | _ => False
theorem c_len : CP K (fun xs H Q => ∃ x n, xs = [x] ∧ LenV K x H n ∧ Q (.int n) H) oLen := fun S H h vs xs Q Q' m r q pk => by
  unfold oLen at q
  split at q
  · cases r with
    | cons r1 rn =>
      cases rn
      cases r1 with
      | tup s hh r => exact ⟨_, _, rfl, .inr ⟨_, SqT.of hh, r.length.symm⟩, pk S H h _ _ Fut.refl m (.int _) q⟩
      | tupK hh kx r => exact ⟨_, _, rfl, .inr ⟨_, .inr hh, r.length.symm⟩, pk S H h _ _ Fut.refl m (.int _) q⟩
  · cases r with
    | cons r1 rn =>
      cases rn
      obtain ⟨a, rfl, hh, _⟩ := r1.scr_sq
      exact ⟨_, _, rfl, .inl ⟨_, hh, by rw [List.length_map]⟩, pk S H h _ _ Fut.refl m (.int _) q⟩
  · cases r with
    | cons r1 rn =>
      cases rn
      cases r1
      exact ⟨_, _, rfl, ⟨lim_le q.1, rfl⟩, pk S H h _ _ Fut.refl m (.int _) q.2⟩
  · cases r with
    | cons r1 rn =>
      cases rn
      split at q
      · rename_i ts e
        obtain ⟨a, vs, rfl, ha, r⟩ := lsOf_ok m r1 e
        exact ⟨_, _, rfl, .inl ⟨_, SqL.of ha, r.length.symm⟩, pk S H h _ _ Fut.refl m (.int _) q⟩
      · exact q.elim
  · exact q.elim
def oInt : RLT := fun xs h Q => match xs with
  | [.int i] => Q (.int i) h
  | [.bl b] => Q (.int (if b then 1 else 0)) h
  | _ => False
theorem c_int : CP K (fun xs H Q => (∃ i, xs = [.int i] ∧ Q (.int i) H) ∨ ∃ k, xs = [.bl k] ∧ Q (.int (if k then 1 else 0)) H) oInt := fun S H h vs xs Q Q' m r q pk => by
  unfold oInt at q
  split at q
  · cases r with
    | cons r1 rn => cases rn; cases r1; exact .inl ⟨_, rfl, pk S H h _ _ Fut.refl m (.int _) q⟩
  · cases r with
    | cons r1 rn => cases rn; cases r1; exact .inr ⟨_, rfl, pk S H h _ _ Fut.refl m (.int _) q⟩
  · exact q.elim
def intsOf : List T → Option (List Int)
  | [] => some []
  | .int i :: ts => match intsOf ts with
    | some ns => some (i :: ns)
    | none => none
  | _ => none
theorem intsOf_ok : ∀ {ts : List T} {ns : List Int}, intsOf ts = some ns → ts = ns.map T.int
  | [], _, e => by cases e; rfl
  | .int i :: ts, _, e => by
    unfold intsOf at e
    split at e
    · rename_i ns z; cases e; rw [intsOf_ok z]; rfl
    · cases e
  | .non :: _, _, e => by cases e
  | .bl _ :: _, _, e => by cases e
  | .str _ :: _, _, e => by cases e
  | .tup _ :: _, _, e => by cases e
  | .lst _ :: _, _, e => by cases e
  | .ins _ _ :: _, _, e => by cases e
  | .ref _ :: _, _, e => by cases e
  | .ty _ :: _, _, e => by cases e
  | .scr _ :: _, _, e => by cases e
@[simp] theorem intsOf_map : ∀ ns : List Int, intsOf (ns.map T.int) = some ns
  | [] => rfl
  | n :: ns => by show (match intsOf (ns.map T.int) with | some ms => some (n :: ms) | none => none) = _; rw [intsOf_map ns]
def intsIn (h : Hq) (x : T) : Option (List Int) := (lsOf h x).bind intsOf
theorem intsIn_ok (m : Sim K S H h) {v : V} {x : T} {ns : List Int} (r : Rep K S H v x) (e : intsIn h x = some ns) : ∃ a, v = .ref a ∧ H a = some (.lst (ns.map V.int)) := by
  unfold intsIn at e
  cases z : lsOf h x with
  | none => rw [z] at e; cases e
  | some ts =>
    rw [z] at e
    obtain ⟨a, vs, rfl, ha, r⟩ := lsOf_ok m r z
    rw [intsOf_ok e] at r
    rw [r.ints] at ha
    exact ⟨a, rfl, ha⟩
def oSumL : RLT := fun xs h Q => match xs with
  | [x] => match intsIn h x with
    | some ns => Q (.int ns.sum) h
    | none => False
  | _ => False
def oMax : RLT := fun xs h Q => match xs with
  | [.int i, .int j] => Q (.int (if j > i then j else i)) h
  | [x] => match intsIn h x with
    | some ns => 0 < ns.length ∧ ∀ m, m ∈ ns → (∀ y, y ∈ ns → y ≤ m) → Q (.int m) h
    | none => False
  | _ => False
def oMin : RLT := fun xs h Q => match xs with
  | [.int i, .int j] => Q (.int (if j < i then j else i)) h
  | [x] => match intsIn h x with
    | some ns => 0 < ns.length ∧ ∀ m, m ∈ ns → (∀ y, y ∈ ns → m ≤ y) → Q (.int m) h
    | none => False
  | _ => False
def rMaxA (K : PySem.W.Frag) : List V → Hp → VK → Prop := fun xs H Q => (∃ i j, xs = [.int i, .int j] ∧ Q (.int (if j > i then j else i)) H) ∨ rMax K xs H Q
def rMinA (K : PySem.W.Frag) : List V → Hp → VK → Prop := fun xs H Q => (∃ i j, xs = [.int i, .int j] ∧ Q (.int (if j < i then j else i)) H) ∨ rMin K xs H Q
theorem call_maxA (hc : X.calm = true) : CallR X (.builtin "max") (rMaxA X.K) := CallR.or (call_max2 hc) (cr_max hc)
theorem call_minA (hc : X.calm = true) : CallR X (.builtin "min") (rMinA X.K) := CallR.or (call_min2 hc) (cr_min hc)
theorem c_max : CP K (rMaxA K) oMax := fun S H h vs xs Q Q' m r q pk => by
  unfold oMax at q
  split at q
  · cases r with
    | cons r1 rn => cases rn with
      | cons r2 rn => cases rn; cases r1; cases r2; exact .inl ⟨_, _, rfl, pk S H h _ _ Fut.refl m (.int _) q⟩
  · cases r with
    | cons r1 rn =>
      cases rn
      split at q
      · rename_i ns e
        obtain ⟨a, rfl, ha⟩ := intsIn_ok m r1 e
        exact .inr ⟨a, ns, rfl, SqL.of ha, q.1, fun k hk hl => pk S H h _ _ Fut.refl m (.int _) (q.2 k hk hl)⟩
      · exact q.elim
  · exact q.elim
theorem c_min : CP K (rMinA K) oMin := fun S H h vs xs Q Q' m r q pk => by
  unfold oMin at q
  split at q
  · cases r with
    | cons r1 rn => cases rn with
      | cons r2 rn => cases rn; cases r1; cases r2; exact .inl ⟨_, _, rfl, pk S H h _ _ Fut.refl m (.int _) q⟩
  · cases r with
    | cons r1 rn =>
      cases rn
      split at q
      · rename_i ns e
        obtain ⟨a, rfl, ha⟩ := intsIn_ok m r1 e
        exact .inr ⟨a, ns, rfl, SqL.of ha, q.1, fun k hk hl => pk S H h _ _ Fut.refl m (.int _) (q.2 k hk hl)⟩
      · exact q.elim
  · exact q.elim
def oList (fl : Bool) : RLT := fun xs h Q => match xs with
  | [.tup ts] => mk fl ts h Q
  | [x] => match lsOf h x with
    | some ts => mk fl ts h Q
    | none => False
  | _ => False
def blsOf : List T → Option (List Bool)
  | [] => some []
  | .bl i :: ts => match blsOf ts with
    | some ns => some (i :: ns)
    | none => none
  | _ => none
@[simp] theorem blsOf_map : ∀ ns : List Bool, blsOf (ns.map T.bl) = some ns
  | [] => rfl
  | n :: ns => by show (match blsOf (ns.map T.bl) with | some ms => some (n :: ms) | none => none) = _; rw [blsOf_map ns]
def oBls (g : List Bool → Bool) : RLT := fun xs h Q => match xs with
  | [x] => match (lsOf h x).bind blsOf with
    | some bs => Q (.bl (g bs)) h
    | none => False
  | _ => False
def PX (K : PySem.W.Frag) (S : Fz) (H : Hp) (E : Ex → Hq → Prop) (E' : XK) : Prop := ∀ S1 H1 h1 x cls d, Fut S H S1 H1 → Sim K S1 H1 h1 → RepX K S1 H1 cls d x → E x h1 → E' cls d H1
def liftSp (K : PySem.W.Frag) (n : Nat) (c : Con) : Sp := fun vs H Q' E' => ∃ S h ts Q E, Sim K S H h ∧ RepL K S H vs ts ∧ ts.length = n ∧ c ts h Q E ∧ PK K S H Q Q' ∧ PX K S H E E'
def eCall (n : Nat) (c : Con) (a : AM) : EM := fun s h Q E => a s h (fun ts h1 => ts.length = n ∧ c ts h1 Q fun x h2 => E x s h2) E
theorem j_call {CX : CXT} {k n : Nat} {f : Addr} {fd : FuncData} {ps : List Str} {c : Con} {x : Str} {p pos : Pos} {e : Expr} {es : List Expr} {a : AM} (F : FnOk X.prog X.w X.K X.mg X.base CX k f fd ps (liftSp X.K n c)) (hr : Room k X.A) (hg : Gl X x) (hm : X.mg x = some (.ref f))
    (hk : PySem.W.keepIn X.K (.ref f) = true) (hb : Binds X.K fd ps []) (hx : ∀ σ, PassesAt CX X σ (WE W σ)) (ha : JA X W (e :: es) a)
    (hd : (x == ("__debug__" : Str)) = false := by decide) (he : starEach (e :: es) X.env = (false, eval e X.env) :: starEach es X.env := by rfl) (hpl : (backTo pos (starEach es X.env)).any (·.1) = false := by rfl) :
    JE X W (.Call (.Name x p) (e :: es) [] pos) (eCall n c a) := PE.wk (pe_callS (E := WE W) F hr hg hm hk hb hx ha hd he hpl) fun σ H Q' ⟨S, h, s, Q, E, m, rs, lk, hm, pk⟩ =>
  ⟨S, h, s, _, E, m, rs, lk, hm, fun S1 H1 h1 vs ts f1 m1 r1 ⟨l1, q1⟩ => ⟨S1, h1, ts, Q, _, m1, r1, l1, q1, pk.fut f1, fun S2 H2 h2 x cls d f2 m2 r2 q2 => lk S2 H2 h2 σ s x cls d (f1.trans f2) m2 (rs.fut (f1.trans f2)) r2 q2⟩⟩
abbrev W0 : WX := fun _ _ _ _ => False
theorem px0 {P : Program} {w : World} (hP : X.prog = P := by rfl) (hw : X.w = w := by rfl) : ∀ σ, PassesAt (L2N.CX P w) X σ (WE W0 σ) := fun σ pins H s e s' I c => by
  obtain ⟨_, _, _, _, _, _, _, _, _, _, _, _, z⟩ := c
  exact z.elim
theorem pxT {P : Program} {w : World} (tk : L2N.Takes X W) (hP : X.prog = P := by rfl) (hw : X.w = w := by rfl) : ∀ σ, PassesAt (L2N.CX P w) X σ (WE W σ) := by
  subst hP hw
  exact fun σ => L2N.passAt tk σ
abbrev MT := T → List T → Hq → TK → Prop
def eBM (ok : T → Hq → Prop) (o : MT) (a : EM) (r : AM) : EM := fun s h Q E => a s h (fun x h1 => ok x h1 ∧ r s h1 (fun xs h2 => o x xs h2 Q) E) E
def TyOk (K : PySem.W.Frag) (Ty : String) (ok : T → Hq → Prop) : Prop := ∀ S H h v x, Sim K S H h → Rep K S H v x → ok x h → tyV K Ty v H
def MR (K : PySem.W.Frag) (r : V → List V → Hp → VK → Prop) (o : MT) : Prop := ∀ S H h v vs x xs Q Q', Sim K S H h → Rep K S H v x → RepL K S H vs xs → o x xs h Q → PK K S H Q Q' → r v vs H Q'
theorem lift_bm {Ty : String} {ok : T → Hq → Prop} {r : V → List V → Hp → VK → Prop} {o : MT} {a : EM} {b : AM} (t : TyOk K Ty ok) (c : MR K r o) : ∀ σ H Q, liftE K W (eBM ok o a b) σ H Q → tBM K Ty r (liftE K W a) (liftA K W b) σ H Q := fun σ H Q' ⟨S, h, s, Q, E, m, rs, lk, hm, pk⟩ =>
  ⟨S, h, s, _, E, m, rs, lk, hm, fun S1 H1 h1 v x f1 m1 r1 ⟨k1, q1⟩ => ⟨t S1 H1 h1 v x m1 r1 k1, S1, h1, s, _, E, m1, rs.fut f1, lk.fut f1, q1, fun S2 H2 h2 vs xs f2 m2 r2 q2 => c S2 H2 h2 v vs x xs Q Q' m2 (r1.fut f2) r2 q2 (pk.fut (f1.trans f2))⟩⟩
def eBM0 (ok : T → Hq → Prop) (o : MT) (a : EM) : EM := fun s h Q E => a s h (fun x h1 => ok x h1 ∧ o x [] h1 Q) E
theorem j_bm {Ty : String} {name : Str} {id : String} {o : Expr} {e : Expr} {es : List Expr} {ok : T → Hq → Prop} {r : V → List V → Hp → VK → Prop} {q : MT} {a : EM} {b : AM} {apos cpos : Pos} (pa : PlainAttrs Ty) (slot : Slot Ty name id) (hty : typeOf (.builtin id) = pure (.type "method_descriptor")) (hm : MtR X id r) (t : TyOk X.K Ty ok) (c : MR X.K r q) (ho : JE X W o a) (ha : JA X W (e :: es) b)
    (hbase : attributeBase o name X.env (eval o X.env) = eval o X.env := by rfl)
    (hfew : ((backTo cpos (starEach (e :: es) X.env)).all (fun x => !x.1) && (backToKw cpos (keywordEach [] X.env)).all (fun x => x.1.isSome)
      && decide ((e :: es).length + ([] : List Keyword).length + (if ([] : List Keyword).isEmpty then 0 else 1) < 30)) = true := by rfl) (hline : (apos.endLine == cpos.line) = true := by rfl)
    (hs : starEach (e :: es) X.env = (false, eval e X.env) :: starEach es X.env := by rfl) (hplain : ((backTo cpos (starEach es X.env)).any fun x => x.fst) = false := by rfl) :
    JE X W (.Call (.Attribute o name apos) (e :: es) [] cpos) (eBM ok q a b) := PE.wk (pe_bm pa slot hty hm ho ha (hbase := hbase) (hfew := hfew) (hline := hline) (hs := hs) (hplain := hplain)) (lift_bm t c)
def isLs : T → Hq → Prop := fun x h => (lsOf h x).isSome = true
theorem ty_list : TyOk K "list" isLs := fun S H h v x m r k => by
  unfold isLs at k
  cases z : lsOf h x with
  | none => rw [z] at k; cases k
  | some ts =>
    obtain ⟨a, vs, rfl, ha, _⟩ := lsOf_ok m r z
    exact .inl ⟨rfl, vs, SqL.of ha⟩
def oApp : MT := fun x xs h Q => match x, xs with
  | .ref p, [y] => match h p with
    | some (.lst ts) => ts.length < lim ∧ Q .non (put h p (.lst (ts ++ [y])))
    | _ => False
  | _, _ => False
theorem ref_lst (m : Sim K S H h) {p : Addr} {ts : List T} (e : h p = some (.lst ts)) : ∃ vs, H p = some (.lst vs) ∧ RepL K S H vs ts := by
  obtain ⟨u, e1, vs, e2, r2⟩ := m.ob p _ e
  subst e2
  exact ⟨vs, e1, r2⟩
theorem c_app : MR K rAppend oApp := fun S H h v vs x xs Q Q' m r1 r2 q pk => by
  unfold oApp at q
  split at q
  · split at q
    · rename_i ts e
      cases r1
      cases r2 with
      | cons ry rn =>
        cases rn
        obtain ⟨vs, e1, r⟩ := ref_lst m e
        refine ⟨_, vs, _, rfl, rfl, e1, lim_lt (by rw [r.length]; exact Nat.le_of_lt q.1), ?_⟩
        exact pk S _ _ _ _ (fut_upd (m.nS' e)) (m.write (o' := .lst (ts ++ [_])) e ⟨_, rfl, r.append (.cons ry .nil)⟩) .non q.2
    · exact q.elim
  · exact q.elim
def oPop : MT := fun x xs h Q => match x, xs with
  | .ref p, [] => match h p with
    | some (.lst ts) => match ts[ts.length - 1]? with
      | some y => Q y (put h p (.lst ts.dropLast))
      | none => False
    | _ => False
  | _, _ => False
def oExt : MT := fun x xs h Q => match x, xs with
  | .ref p, [y] => match h p, lsOf h y with
    | some (.lst ts), some us => ts.length + us.length ≤ lim ∧ Q .non (put h p (.lst (ts ++ us)))
    | _, _ => False
  | _, _ => False
end
end TL

namespace TL
open PySem L2
section
variable {X : Cx} {W : WX} {K : PySem.W.Frag} {S : Fz} {H : Hp} {h : Hq}
def tTru (a : EM) : TM := fun s h Q E => a s h (fun x h1 => match x with
  | .non => Q false h1
  | .bl b => Q b h1
  | .int i => Q (i != 0) h1
  | .str z => z.length ≤ lim ∧ Q ((z.length : Int) != 0) h1
  | .tup ts => Q (!ts.isEmpty) h1
  | x => match lsOf h1 x with
    | some ts => Q (!ts.isEmpty) h1
    | none => False) E
theorem RepL.isEmpty {vs : List V} {ts : List T} (r : RepL K S H vs ts) : vs.isEmpty = ts.isEmpty := by cases r <;> rfl
theorem jt_tru {a : Expr} {m : EM} (ha : JE X W a m) (he : ∀ whole, isTrue a X.env whole = (do let v ← whole; standAt a.pos; holding [v] (truthy v)) := by intro _; rfl) : JT X W a (tTru m) := PT.wk (pt_truth ha he) fun σ H Q' ⟨S, h, s, Q, E, m, rs, lk, hm, pk⟩ =>
  ⟨S, h, s, _, E, m, rs, lk, hm, fun S1 H1 h1 v x f1 m1 r1 q1 => by
    split at q1
    · cases r1; exact ⟨false, rfl, pk S1 H1 h1 _ f1 m1 q1⟩
    · cases r1; exact ⟨_, rfl, pk S1 H1 h1 _ f1 m1 q1⟩
    · cases r1; exact ⟨_, rfl, pk S1 H1 h1 _ f1 m1 q1⟩
    · cases r1; exact ⟨_, ⟨lim_le q1.1, rfl⟩, pk S1 H1 h1 _ f1 m1 q1.2⟩
    · cases r1 with
      | tup s hh r => exact ⟨_, .inr (.inl ⟨_, SqT.of hh, by rw [r.isEmpty]⟩), pk S1 H1 h1 _ f1 m1 q1⟩
      | tupK hh kx r => exact ⟨_, .inr (.inl ⟨_, .inr hh, by rw [r.isEmpty]⟩), pk S1 H1 h1 _ f1 m1 q1⟩
    · split at q1
      · rename_i ts e
        obtain ⟨a, vs, rfl, ha, r⟩ := lsOf_ok m1 r1 e
        exact ⟨_, .inl ⟨_, SqL.of ha, by rw [r.isEmpty]⟩, pk S1 H1 h1 _ f1 m1 q1⟩
      · exact q1.elim⟩

def sNext : SM := fun D s h => D.nx s h
def sSeq (a b : SM) : SM := fun D s h => a { D with nx := b D } s h
def sDrop (a : EM) : SM := fun D s h => a s h (fun _ h1 => D.nx s h1) D.ex
def sRet (a : EM) : SM := fun D s h => a s h D.rt D.ex
def sRetN : SM := fun D _ h => D.rt .non h
def sIf (c : TM) (a b : SM) : SM := fun D s h => c s h (fun d h1 => if d = true then a D s h1 else b D s h1) D.ex
def sBreak : SM := fun D s h => D.bk s h
def sCont : SM := fun D s h => D.ct s h
def sNever : SM := fun _ _ _ => False
theorem js_cont {pos : Pos} : JS X W (.Continue pos) sCont := PS.wk ps_continue fun D' σ H ⟨S, h, s, D, m, rs, lk, hm⟩ => lk.ct S H h σ s Fut.refl m rs hm
theorem js_never {st : Stmt} : JS X W st sNever := PS.wk ps_never fun D' σ H ⟨S, h, s, D, m, rs, lk, hm⟩ => hm
theorem jss_nil : JSs X W [] sNext := PSs.wk pss_nil fun D' σ H ⟨S, h, s, D, m, rs, lk, hm⟩ => lk.nx S H h σ s Fut.refl m rs hm
theorem jss_one {st : Stmt} {a : SM} (ha : JS X W st a) : JSs X W [st] a := pss_one ha
theorem jss_cons {st : Stmt} {rest : List Stmt} {a b : SM} (ha : JS X W st a) (hb : JSs X W rest b) : JSs X W (st :: rest) (sSeq a b) := PSs.wk (pss_cons ha hb) fun D' σ H ⟨S, h, s, D, m, rs, lk, hm⟩ =>
  ⟨S, h, s, { D with nx := b D }, m, rs, { nx := fun S1 H1 h1 σ1 s1 f1 m1 r1 q1 => ⟨S1, h1, s1, D, m1, r1, lk.fut f1, q1⟩, rt := lk.rt, bk := lk.bk, ct := lk.ct, ex := lk.ex }, hm⟩
theorem js_expr {e : Expr} {a : EM} {pos : Pos} (ha : JE X W e a) (hs : swapsWith e none pos.line X.env = pure false := by rfl) : JS X W (.Expr e pos) (sDrop a) := PS.wk (ps_expr ha hs) fun D' σ H ⟨S, h, s, D, m, rs, lk, hm⟩ =>
  ⟨S, h, s, _, D.ex, m, rs, lk.ex, hm, fun S1 H1 h1 v x f1 m1 r1 q1 => lk.nx S1 H1 h1 σ s f1 m1 (rs.fut f1) q1⟩
theorem js_ret {e : Expr} {a : EM} {pos : Pos} (ha : JE X W e a) : JS X W (.Return (some e) pos) (sRet a) := PS.wk (ps_ret ha) fun D' σ H ⟨S, h, s, D, m, rs, lk, hm⟩ => ⟨S, h, s, _, D.ex, m, rs, lk.ex, hm, lk.rt⟩
theorem js_if {c : Expr} {as bs : List Stmt} {mc : TM} {a b : SM} {pos : Pos} (hc : JT X W c mc) (ha : JSs X W as a) (hb : JSs X W bs b) : JS X W (.If c as bs pos) (sIf mc a b) := PS.wk (ps_if hc ha hb) fun D' σ H ⟨S, h, s, D, m, rs, lk, hm⟩ =>
  ⟨S, h, s, _, D.ex, m, rs, lk.ex, hm, fun S1 H1 h1 d f1 m1 q1 => by
    cases d with
    | true => rw [if_pos rfl] at q1 ⊢; exact ⟨S1, h1, s, D, m1, rs.fut f1, lk.fut f1, q1⟩
    | false => rw [if_neg Bool.false_ne_true] at q1 ⊢; exact ⟨S1, h1, s, D, m1, rs.fut f1, lk.fut f1, q1⟩⟩

def gN (i : Nat) : GM := fun t s h Q _ => Q (s.set i (some t)) h
theorem jg_name {i : Nat} {x : Str} {pos : Pos} (hN : X.N.Nodup) (hi : X.N[i]? = some x) (hx : Loc X.env.scope x) (hf : X.fn x = true ∨ X.env.scope.names.lookup x = some .local := by first | exact .inl rfl | exact .inr rfl | assumption) : JG X W (.Name x pos) (gN i) := PG.wk (pg_name hN hi hx hf) fun v σ H Q' ⟨S, h, s, t, Q, E, m, rs, r, lk, hm, pk⟩ => pk S H h _ _ Fut.refl m (rs.set r i) hm
def gNil : GMs := fun ts s h Q _ => ts = [] ∧ Q s h
def gCons (a : GM) (b : GMs) : GMs := fun ts s h Q E => match ts with
  | t :: r => a t s h (fun s1 h1 => b r s1 h1 Q E) E
  | [] => False
theorem jgs_nil : JGs X W [] gNil := PGs.wk pgs_nil fun v σ H Q' ⟨S, h, s, t, Q, E, m, rs, r, lk, hm, pk⟩ => by
  obtain ⟨rfl, hm⟩ := hm
  cases r
  exact ⟨rfl, pk S H h _ _ Fut.refl m rs hm⟩
theorem jgs_cons {e : Expr} {es : List Expr} {a : GM} {b : GMs} (ha : JG X W e a) (hb : JGs X W es b) (hs : (assignEach (e :: es) X.env).map (·.2) = assign e X.env :: (assignEach es X.env).map (·.2) := by rfl) : JGs X W (e :: es) (gCons a b) := PGs.wk (pgs_cons ha hb hs) fun v σ H Q' ⟨S, h, s, t, Q, E, m, rs, r, lk, hm, pk⟩ => by
  cases r with
  | nil => exact hm.elim
  | cons r1 rn => exact ⟨_, _, rfl, S, h, s, _, _, E, m, rs, r1, lk, hm, fun S1 H1 h1 σ1 s1 f1 m1 q1 k1 => ⟨S1, h1, s1, _, Q, E, m1, q1, rn.fut f1, lk.fut f1, k1, pk.fut f1⟩⟩
def gTup (n : Nat) (b : GMs) : GM := fun t s h Q E => match t with
  | .tup ts => ts.length = n ∧ b ts s h Q E
  | _ => False
theorem jg_tup {es : List Expr} {k n : Nat} {b : GMs} {pos : Pos} (hc : X.calm = true) (hb : JGs X W es b) (hn : (assignEach es X.env).length = n := by rfl) (hst : (assignEach es X.env).findIdx? (·.1) = none := by rfl) : JG X W (.Tuple es k pos) (gTup n b) := PG.wk (pg_tup hc hb hn hst) fun v σ H Q' ⟨S, h, s, t, Q, E, m, rs, r, lk, hm, pk⟩ => by
  unfold gTup at hm
  split at hm
  · cases r with
    | tup s hh r => exact ⟨_, _, rfl, SqT.of hh, by rw [r.length]; exact hm.1, S, h, _, _, Q, E, m, rs, r, lk, hm.2, pk⟩
    | tupK hh kx r => exact ⟨_, _, rfl, .inr hh, by rw [r.length]; exact hm.1, S, h, _, _, Q, E, m, rs, r, lk, hm.2, pk⟩
  · exact hm.elim
def setT (o i v : T) (h : Hq) (Q : Hq → Prop) : Prop := match o, i with
  | .ref p, .int k => match h p with
    | some (.lst ts) => match ixN ts.length k with
      | some j => Q (put h p (.lst (ts.set j v)))
      | none => False
    | _ => False
  | _, _ => False
theorem setT_ok (m : Sim K S H h) {o i v : V} {to ti tv : T} {Q : Hq → Prop} {Q' : Hp → Prop} (ro : Rep K S H o to) (ri : Rep K S H i ti) (rv : Rep K S H v tv) (q : setT to ti tv h Q) (pk : ∀ H1 h1, Fut S H S H1 → Sim K S H1 h1 → Q h1 → Q' H1) : rSetL o i v H Q' := by
  unfold setT at q
  split at q
  · split at q
    · split at q
      · rename_i ts e _ j ej
        cases ro
        cases ri
        obtain ⟨vs, e1, r⟩ := ref_lst m e
        refine ⟨_, vs, _, j, rfl, rfl, e1, by rw [r.length]; exact ej, ?_⟩
        exact pk _ _ (fut_upd (m.nS' e)) (m.write (o' := .lst (ts.set j tv)) e ⟨_, rfl, r.set rv j⟩) q
      · exact q.elim
    · exact q.elim
  · exact q.elim
def gSub (a b : EM) : GM := fun v s h Q E => a s h (fun o h1 => b s h1 (fun i h2 => setT o i v h2 fun h3 => Q s h3) E) E
theorem jg_sub {o i : Expr} {a b : EM} {pos : Pos} (ho : JE X W o a) (hi : JE X W i b)
    (ha : ∀ v, assign (.Subscript o i pos) X.env v = (do
      let ov ← holding [v] (eval o X.env)
      let iv ← holding [v, ov] (eval i X.env)
      standAt pos
      holding [v, ov, iv] (setItem ov iv v)
      release [v, ov, iv] []) := by intro _; rfl) : JG X W (.Subscript o i pos) (gSub a b) := PG.wk (pg_sub ho hi set_list ha) fun v σ H Q' ⟨S, h, s, t, Q, E, m, rs, r, lk, hm, pk⟩ =>
  ⟨S, h, s, _, E, m, rs, lk, hm, fun S1 H1 h1 vo to f1 m1 r1 q1 => ⟨S1, h1, s, _, E, m1, rs.fut f1, lk.fut f1, q1, fun S2 H2 h2 vi ti f2 m2 r2 q2 =>
    setT_ok m2 (r1.fut f2) r2 (r.fut (f1.trans f2)) q2 fun H3 h3 f3 m3 q3 => pk S2 H3 h3 σ s ((f1.trans f2).trans f3) m3 (rs.fut ((f1.trans f2).trans f3)) q3⟩⟩
def sAsg (a : EM) (g : GM) : SM := fun D s h => a s h (fun x h1 => g x s h1 D.nx D.ex) D.ex
theorem js_asg {tg e : Expr} {a : EM} {g : GM} {pos : Pos} (ha : JE X W e a) (hg : JG X W tg g) (hs : swapsWithSole [tg] e pos.line X.env = pure false := by rfl) (hw : swappedStores [tg] e X.env = pure none := by rfl) (h1 : (assignEach [tg] X.env).map (·.2) = [assign tg X.env] := by rfl) : JS X W (.Assign [tg] e pos) (sAsg a g) := PS.wk (ps_asg ha hg hs hw h1) fun D' σ H ⟨S, h, s, D, m, rs, lk, hm⟩ =>
  ⟨S, h, s, _, D.ex, m, rs, lk.ex, hm, fun S1 H1 h1 v x f1 m1 r1 q1 => ⟨S1, h1, s, x, D.nx, D.ex, m1, rs.fut f1, r1, lk.ex.fut f1, q1, lk.nx.fut f1⟩⟩
theorem js_set {i : Nat} {x : Str} {e : Expr} {a : EM} {pos pos' : Pos} (hN : X.N.Nodup) (hi : X.N[i]? = some x) (hx : Loc X.env.scope x) (ha : JE X W e a) (hs : swapsWith e (some (.Name x pos')) pos.line X.env = pure false := by rfl) (hf : X.fn x = true ∨ X.env.scope.names.lookup x = some .local := by first | exact .inl rfl | exact .inr rfl | assumption) :
    JS X W (.Assign [.Name x pos'] e pos) (sAsg a (gN i)) := PS.wk (ps_set hN hi hx ha hs hf) fun D' σ H ⟨S, h, s, D, m, rs, lk, hm⟩ =>
  ⟨S, h, s, _, D.ex, m, rs, lk.ex, hm, fun S1 H1 h1 v x f1 m1 r1 q1 => lk.nx S1 H1 h1 _ _ f1 m1 ((rs.fut f1).set r1 i) q1⟩
def sPar (i j : Nat) (a : AM) : SM := fun D s h => a s h (fun ts h1 => match ts with
  | [x, y] => D.nx ((s.set i (some x)).set j (some y)) h1
  | _ => False) D.ex
theorem js_par {i j : Nat} {x y : Str} {a b : Expr} {m : AM} {px py pt : Pos} {kt k2 pt2} {pos : Pos} (hc : X.calm = true) (hN : X.N.Nodup) (hi : X.N[i]? = some x) (hj : X.N[j]? = some y) (hij : i ≠ j)
    (hx : X.env.scope.names.lookup x = some .local) (hy : X.env.scope.names.lookup y = some .local) (ha : JA X W [a, b] m)
    (hw : swappedStores [.Tuple [.Name x px, .Name y py] kt pt] (.Tuple [a, b] k2 pt2) X.env = pure (some [x, y]))
    (hs : swapsWithSole [.Tuple [.Name x px, .Name y py] kt pt] (.Tuple [a, b] k2 pt2) pos.line X.env = pure false := by rfl) :
    JS X W (.Assign [.Tuple [.Name x px, .Name y py] kt pt] (.Tuple [a, b] k2 pt2) pos) (sPar i j m) := PS.wk (ps_par hc hN hi hj hij hx hy ha hw hs) fun D' σ H ⟨S, h, s, D, m, rs, lk, hm⟩ =>
  ⟨S, h, s, _, D.ex, m, rs, lk.ex, hm, fun S1 H1 h1 vs ts f1 m1 r1 q1 => by
    split at q1
    · cases r1 with
      | cons ra rn => cases rn with
        | cons rb rn => cases rn; exact ⟨_, _, rfl, lk.nx S1 H1 h1 _ _ f1 m1 (((rs.fut f1).set ra i).set rb j) q1⟩
    · exact q1.elim⟩
def sAug (i : Nat) (a : EM) (o : R2T) : SM := fun D s h => match s[i]? with
  | some (some x) => a s h (fun y h1 => o x y h1 fun z h2 => D.nx (s.set i (some z)) h2) D.ex
  | _ => False
theorem js_aug {i : Nat} {x : Str} {e : Expr} {a : EM} {op : Operator} {ti : TIp} {o : R2T} {pos pos' : Pos} (hN : X.N.Nodup) (hi : X.N[i]? = some x) (hx : Loc X.env.scope x) (ha : JE X W e a) (ho : PIp X op ti) (p : OP X.K ti o) (hf : X.fn x = true ∨ X.env.scope.names.lookup x = some .local := by first | exact .inl rfl | exact .inr rfl | assumption) :
    JS X W (.AugAssign (.Name x pos') op e pos) (sAug i a o) := PS.wk (ps_aug hN hi hx ha ho hf) fun D' σ H ⟨S, h, s, D, m, rs, lk, hm⟩ => by
  unfold sAug at hm
  split at hm
  · rename_i t e
    obtain ⟨v, e1, r⟩ := rs.at_ i t e
    exact ⟨v, e1, S, h, s, _, D.ex, m, rs, lk.ex, hm, fun S1 H1 h1 w y f1 m1 r1 q1 => p S1 H1 h1 v w t y _ _ m1 (r.fut f1) r1 q1 fun S2 H2 h2 u z f2 m2 r2 q2 => lk.nx S2 H2 h2 _ _ (f1.trans f2) m2 ((rs.fut (f1.trans f2)).set r2 i) q2⟩
  · exact hm.elim
def oIxL : R2T := fun x y h Q => match y with
  | .int i => match lsOf h x with
    | some ts => atK ts i h Q
    | none => False
  | _ => False
def sAugS (a b e : EM) (o : R2T) : SM := fun D s h => a s h (fun x h1 => b s h1 (fun i h2 => oIxL x i h2 fun y h3 => e s h3 (fun z h4 => o y z h4 fun w h5 => setT x i w h5 fun h6 => D.nx s h6) D.ex) D.ex) D.ex
def oAddI : R2T := oI fun i j => .int (i + j)
theorem p_isub : OP K (ipI fun i j => i - j) oSub := fun S H h v w x y Q Q' m r1 r2 q pk => (op_I (g := fun i j => .int (i - j)) (g' := fun i j => .int (i - j)) (fun _ _ _ _ => .int _)) S H h v w x y Q Q' m r1 r2 q pk

def sWhile (c : TM) (b : SM) : SM := fun D s h => ∃ I : Nat → SK, (∃ n, I n s h) ∧ ∀ n s h, I n s h → c s h (fun d h1 => if d = true then b { D with nx := fun s' h' => ∃ n', n' < n ∧ I n' s' h', ct := fun s' h' => ∃ n', n' < n ∧ I n' s' h', bk := D.nx } s h1 else D.nx s h1) D.ex
theorem js_while {c : Expr} {body : List Stmt} {mc : TM} {b : SM} {pos : Pos} (hp : PassesOwn (model X.prog X.w) X.A X.env X.xe) (hc : JT X W c mc) (hb : JSs X W body b) : JS X W (.While c body [] pos) (sWhile mc b) := PS.wk (ps_while hp hc hb) fun D' σ H ⟨S, h, s, D, m, rs, lk, hm⟩ => by
  obtain ⟨I, ⟨n, i0⟩, step⟩ := hm
  refine ⟨fun n σ1 H1 => ∃ S1 h1 s1, Fut S H S1 H1 ∧ Sim X.K S1 H1 h1 ∧ RepS X.K S1 H1 σ1 s1 ∧ I n s1 h1, ⟨n, S, h, s, Fut.refl, m, rs, i0⟩, ?_⟩
  rintro n σ1 H1 ⟨S1, h1, s1, f1, m1, r1, i1⟩
  refine ⟨S1, h1, s1, _, D.ex, m1, r1, lk.ex.fut f1, step n s1 h1 i1, fun S2 H2 h2 d f2 m2 q2 => ?_⟩
  cases d with
  | true =>
    rw [if_pos rfl] at q2 ⊢
    have nxt : PSl X.K S2 H2 (fun s' h' => ∃ n', n' < n ∧ I n' s' h') (fun σ' H' => ∃ n', n' < n ∧ ∃ S1 h1 s1, Fut S H S1 H' ∧ Sim X.K S1 H' h1 ∧ RepS X.K S1 H' σ' s1 ∧ I n' s1 h1) := fun S3 H3 h3 σ3 s3 f3 m3 r3 ⟨n', hn, i3⟩ => ⟨n', hn, S3, h3, s3, (f1.trans f2).trans f3, m3, r3, i3⟩
    exact ⟨_, fun σ' H' q => q, S2, h2, s1, { D with nx := fun s' h' => ∃ n', n' < n ∧ I n' s' h', ct := fun s' h' => ∃ n', n' < n ∧ I n' s' h', bk := D.nx }, m2, r1.fut f2, { nx := nxt, rt := lk.rt.fut (f1.trans f2), bk := lk.nx.fut (f1.trans f2), ct := nxt, ex := lk.ex.fut (f1.trans f2) }, q2⟩
  | false =>
    rw [if_neg Bool.false_ne_true] at q2 ⊢
    exact lk.nx S2 H2 h2 σ1 s1 (f1.trans f2) m2 (r1.fut f2) q2
def ForK (ts : List T) (stay : Hq → Prop) (g : GM) (b : SM) (D : En) (s : Sl) (h1 : Hq) : Prop := ∃ I : Nat → SK, I 0 s h1 ∧ ∀ i s h, i ≤ ts.length → I i s h → stay h ∧ match ts[i]? with
  | none => D.nx s h
  | some t => g t s h (fun s2 h2 => b { D with nx := I (i + 1), ct := I (i + 1), bk := D.nx } s2 h2) D.ex
def sFor (src : IM) (g : GM) (b : SM) : SM := fun D s h => src s h (fun ts stay h1 => ForK ts stay g b D s h1) D.ex
theorem js_for {tg iter : Expr} {body : List Stmt} {src : IM} {g : GM} {b : SM} {pos : Pos} (hp : PassesOwn (model X.prog X.w) X.A X.env X.xe) (hc : X.calm = true) (hi : JI X W tg iter src) (hg : JG X W tg g) (hb : JSs X W body b) (hs : ∀ x, foldedSetIterable iter X.env x = pure x := by intro _; rfl) :
    JS X W (.For tg iter body [] pos) (sFor src g b) := PS.wk (ps_for hp hc hi hg hb hs) fun D' σ H ⟨S, h, s, D, m, rs, lk, hm⟩ => by
  refine ⟨S, h, s, _, D.ex, m, rs, lk.ex, hm, fun S1 H1 h1 J ts stay f1 m1 it q => ?_⟩
  obtain ⟨I, i0, step⟩ := q
  refine ⟨fun i n σ2 H2 => n = ts.length - i ∧ i ≤ ts.length ∧ ∃ S2 h2 s2, Fut S1 H1 S2 H2 ∧ Sim X.K S2 H2 h2 ∧ RepS X.K S2 H2 σ2 s2 ∧ I i s2 h2, ⟨ts.length, by simp, Nat.zero_le _, S1, h1, s, Fut.refl, m1, rs.fut f1, i0⟩, ?_⟩
  rintro i n σ2 H2 ⟨en, hi, S2, h2, s2, f2, m2, r2, i2⟩
  obtain ⟨st, q2⟩ := step i s2 h2 hi i2
  obtain ⟨go, stop⟩ := it S2 H2 h2 f2.fu m2 st
  cases e : ts[i]? with
  | none =>
    rw [e] at q2
    have hl : i = ts.length := Nat.le_antisymm hi (List.getElem?_eq_none_iff.mp e)
    exact .inl ⟨by rw [hl]; exact stop, lk.nx S2 H2 h2 σ2 s2 (f1.trans f2) m2 r2 q2⟩
  | some t =>
    rw [e] at q2
    have hl : i < ts.length := (List.getElem?_eq_some_iff.mp e).1
    obtain ⟨g1, g2⟩ := go i t e
    refine .inr ⟨g1, fun σ' H' => ∃ S3 h3 s3, Fut S1 H1 S3 H' ∧ Sim X.K S3 H' h3 ∧ RepS X.K S3 H' σ' s3 ∧ I (i + 1) s3 h3, fun σ' H' q => ⟨ts.length - (i + 1), by omega, rfl, hl, q⟩, fun x H3 y => ?_⟩
    obtain ⟨S3, f3, m3, r3⟩ := g2 x H3 y
    refine ⟨S3, h2, s2, t, _, D.ex, m3, r2.fut f3, r3, lk.ex.fut ((f1.trans f2).trans f3), q2, fun S4 H4 h4 σ4 s4 f4 m4 r4 q4 => ?_⟩
    have nxt : PSl X.K S4 H4 (I (i + 1)) (fun σ' H' => ∃ S3 h3 s3, Fut S1 H1 S3 H' ∧ Sim X.K S3 H' h3 ∧ RepS X.K S3 H' σ' s3 ∧ I (i + 1) s3 h3) := fun S5 H5 h5 σ5 s5 f5 m5 r5 q5 => ⟨S5, h5, s5, ((f2.trans f3).trans f4).trans f5, m5, r5, q5⟩
    have fa := ((f1.trans f2).trans f3).trans f4
    exact ⟨S4, h4, s4, { D with nx := I (i + 1), ct := I (i + 1), bk := D.nx }, m4, r4, { nx := nxt, rt := lk.rt.fut fa, bk := lk.nx.fut fa, ct := nxt, ex := lk.ex.fut fa }, q4⟩

def iSeq (a : EM) : IM := fun s h Q E => a s h (fun x h1 => match x with
  | .lst ts => Q ts (fun _ => True) h1
  | .scr ns => Q (ns.map T.int) (fun _ => True) h1
  | .ref p => match h1 p with
    | some (.lst ts) => Q ts (fun h2 => h2 p = some (.lst ts)) h1
    | _ => False
  | _ => False) E
theorem seq_it {a : Addr} {vs : List V} {ts : List T} {stay : Hq → Prop} (hl : ∀ S1 H1 h1, Fu S H S1 H1 → Sim K S1 H1 h1 → stay h1 → SqL K H1 a vs) (r : ∀ S1 H1 h1, Fu S H S1 H1 → Sim K S1 H1 h1 → stay h1 → RepL K S1 H1 vs ts) : ItRep K S H (Itl K a) ts stay := fun S1 H1 h1 f1 m1 st => by
  have q := hl S1 H1 h1 f1 m1 st
  have r1 := r S1 H1 h1 f1 m1 st
  refine ⟨fun i t e => ?_, ⟨vs, q, by rw [r1.length]; exact Nat.le_refl _⟩⟩
  obtain ⟨v, ev, rv⟩ := r1.get e
  refine ⟨⟨vs, v, q, ev⟩, fun x H2 y => ?_⟩
  obtain ⟨rfl, y⟩ := y
  have ex : x = v := Option.some.inj ((y vs q).symm.trans ev)
  subst ex
  exact ⟨S1, Fut.refl, m1, rv⟩
theorem ji_seq {tg e : Expr} {a : EM} (ha : JE X W e a) : JI X W tg e (iSeq a) := PI.wk (pi_list ha) fun σ H R ⟨S, h, s, Q, E, m, rs, lk, hm, pk⟩ =>
  ⟨S, h, s, _, E, m, rs, lk, hm, fun S1 H1 h1 v x f1 m1 r1 q1 => by
    split at q1
    · cases r1 with
      | lst s hh r => exact ⟨_, rfl, ⟨_, SqL.of hh⟩, pk S1 H1 h1 _ _ _ f1 m1 (seq_it (fun S2 H2 h2 f2 m2 _ => SqL.of ((f2.kp _ s).trans hh)) fun S2 H2 h2 f2 m2 _ => r.fu f2) q1⟩
    · obtain ⟨a, rfl, hh, hf⟩ := r1.scr_sq
      exact ⟨_, rfl, ⟨_, hh⟩, pk S1 H1 h1 _ _ _ f1 m1 (seq_it (fun S2 H2 h2 f2 m2 _ => hf S2 H2 f2) fun S2 H2 h2 f2 m2 _ => RepL.of_ints _) q1⟩
    · split at q1
      · rename_i p ts e
        cases r1
        obtain ⟨vs, e1, r⟩ := ref_lst m1 e
        refine ⟨_, rfl, ⟨_, SqL.of e1⟩, pk S1 H1 h1 _ ts _ f1 m1 ?_ q1⟩
        intro S2 H2 h2 f2 m2 st
        obtain ⟨ws, e2, r2⟩ := ref_lst m2 st
        refine ⟨fun i t e => ?_, ⟨ws, SqL.of e2, by rw [r2.length]; exact Nat.le_refl _⟩⟩
        obtain ⟨v, ev, rv⟩ := r2.get e
        refine ⟨⟨ws, v, SqL.of e2, ev⟩, fun x H3 y => ?_⟩
        obtain ⟨rfl, y⟩ := y
        have ex : x = v := Option.some.inj ((y ws (SqL.of e2)).symm.trans ev)
        subst ex
        exact ⟨S2, Fut.refl, m2, rv⟩
      · exact q1.elim
    · exact q1.elim⟩
def rng (lo : Int) (n : Nat) : List T := (List.range n).map fun (i : Nat) => T.int (lo + i)
theorem rng_it {lo : Int} {n : Nat} : ItRep K S H (Itr lo n) (rng lo n) (fun _ => True) := fun S1 H1 h1 f1 m1 st => by
  refine ⟨fun i t e => ?_, by show n ≤ (rng lo n).length; unfold rng; simp⟩
  have hi : i < n := by
    have := (List.getElem?_eq_some_iff.mp e).1
    unfold rng at this
    simpa using this
  have et : t = T.int (lo + i) := by
    unfold rng at e
    rw [List.getElem?_map, List.getElem?_range hi] at e
    exact (Option.some.inj e).symm
  subst et
  refine ⟨hi, fun x H2 y => ?_⟩
  obtain ⟨rfl, rfl⟩ := y
  exact ⟨S1, Fut.refl, m1, .int _⟩
def iRange1 (a : AM) : IM := fun s h Q E => a s h (fun ts h1 => match ts with
  | [.int j] => -1000000 ≤ j ∧ j ≤ 1000000 ∧ Q (rng 0 j.toNat) (fun _ => True) h1
  | _ => False) E
def iRange2 (a : AM) : IM := fun s h Q E => a s h (fun ts h1 => match ts with
  | [.int i, .int j] => (-(2 ^ 62) ≤ i ∧ i < 2 ^ 62 ∧ -(2 ^ 62) ≤ j ∧ j < 2 ^ 62) ∧ Q (rng i (j - i).toNat) (fun _ => True) h1
  | _ => False) E
theorem ji_range1 {tg e : Expr} {a : AM} {p pos : Pos} (hg : Gl X "range") (hm : X.mg "range" = none) (ha : JA X W [e] a) (hs : starEach [e] X.env = [(false, eval e X.env)] := by rfl) : JI X W tg (.Call (.Name "range" p) [e] [] pos) (iRange1 a) := PI.wk (pi_range1 hg hm ha hs) fun σ H R ⟨S, h, s, Q, E, m, rs, lk, hm, pk⟩ =>
  ⟨S, h, s, _, E, m, rs, lk, hm, fun S1 H1 h1 vs ts f1 m1 r1 q1 => by
    split at q1
    · cases r1 with
      | cons ra rn =>
        cases rn; cases ra
        rename_i j
        obtain ⟨a1, a2, q1⟩ := q1
        exact ⟨j, rfl, by omega, by omega, pk S1 H1 h1 _ _ _ f1 m1 rng_it q1⟩
    · exact q1.elim⟩
theorem ji_range2 {tg e e2 : Expr} {a : AM} {p pos : Pos} (hg : Gl X "range") (hm : X.mg "range" = none) (ha : JA X W [e, e2] a) (hs : starEach [e, e2] X.env = [(false, eval e X.env), (false, eval e2 X.env)] := by rfl) (hs2 : starEach [e2] X.env = [(false, eval e2 X.env)] := by rfl) :
    JI X W tg (.Call (.Name "range" p) [e, e2] [] pos) (iRange2 a) := PI.wk (pi_range2 hg hm ha hs hs2) fun σ H R ⟨S, h, s, Q, E, m, rs, lk, hm, pk⟩ =>
  ⟨S, h, s, _, E, m, rs, lk, hm, fun S1 H1 h1 vs ts f1 m1 r1 q1 => by
    split at q1
    · cases r1 with
      | cons ra rn => cases rn with
        | cons rb rn =>
          cases rn; cases ra; cases rb
          exact ⟨_, _, rfl, q1.1, pk S1 H1 h1 _ _ _ f1 m1 rng_it q1.2⟩
    · exact q1.elim⟩
def enumT (ts : List T) : List T := ts.mapIdx fun (i : Nat) t => T.tup [T.int i, t]
def iEnum (a : AM) : IM := fun s h Q E => a s h (fun xs h1 => match xs with
  | [.lst ts] => Q (enumT ts) (fun _ => True) h1
  | [.ref p] => match h1 p with
    | some (.lst ts) => Q (enumT ts) (fun h2 => h2 p = some (.lst ts)) h1
    | _ => False
  | _ => False) E
theorem enum_it {a : Addr} {ts : List T} {stay : Hq → Prop} (hl : ∀ S1 H1 h1, Fu S H S1 H1 → Sim K S1 H1 h1 → stay h1 → ∃ vs, SqL K H1 a vs ∧ RepL K S1 H1 vs ts) : ItRep K S H (Ite K a) (enumT ts) stay := fun S1 H1 h1 f1 m1 st => by
  obtain ⟨vs, q, r1⟩ := hl S1 H1 h1 f1 m1 st
  refine ⟨fun i t e => ?_, ⟨vs, q, by rw [r1.length]; unfold enumT; simp⟩⟩
  unfold enumT at e
  rw [List.getElem?_mapIdx] at e
  cases z : ts[i]? with
  | none => rw [z] at e; cases e
  | some y =>
    rw [z] at e
    cases e
    obtain ⟨v, ev, rv⟩ := r1.get z
    refine ⟨⟨vs, v, q, ev⟩, fun x H2 y => ?_⟩
    obtain ⟨p, w, rfl, np, rfl, yy⟩ := y
    have ex : w = v := Option.some.inj ((yy vs q).symm.trans ev)
    subst ex
    obtain ⟨m2, f2⟩ := m1.frozen (u := .tup [.int (i : Nat), w]) np
    exact ⟨_, f2, m2, .tup (.inr rfl) upd_same (.cons (.int _) (.cons (rv.fut f2) .nil))⟩
theorem ji_enum {elts : List Expr} {kk : Nat} {tpos : Pos} {e : Expr} {a : AM} {p pos : Pos} (hg : Gl X "enumerate") (hm : X.mg "enumerate" = none) (ha : JA X W [e] a) (hs : starEach [e] X.env = [(false, eval e X.env)] := by rfl) : JI X W (.Tuple elts kk tpos) (.Call (.Name "enumerate" p) [e] [] pos) (iEnum a) := PI.wk (pi_enum hg hm ha hs) fun σ H R ⟨S, h, s, Q, E, m, rs, lk, hm, pk⟩ =>
  ⟨S, h, s, _, E, m, rs, lk, hm, fun S1 H1 h1 vs ts f1 m1 r1 q1 => by
    split at q1
    · cases r1 with
      | cons ra rn =>
        cases rn
        cases ra with
        | lst s hh r => exact ⟨_, _, rfl, SqL.of hh, pk S1 H1 h1 _ _ _ f1 m1 (enum_it fun S2 H2 h2 f2 m2 _ => ⟨_, SqL.of ((f2.kp _ s).trans hh), r.fu f2⟩) q1⟩
    · cases r1 with
      | cons ra rn =>
        cases rn
        split at q1
        · rename_i ts e
          cases ra
          obtain ⟨vs, e1, r⟩ := ref_lst m1 e
          refine ⟨_, _, rfl, SqL.of e1, pk S1 H1 h1 _ _ _ f1 m1 (enum_it fun S2 H2 h2 f2 m2 st => ?_) q1⟩
          obtain ⟨ws, e2, r2⟩ := ref_lst m2 st
          exact ⟨ws, SqL.of e2, r2⟩
        · exact q1.elim
    · exact q1.elim⟩
end
end TL

namespace TL
open PySem L2
theorem ne_mem {α : Type} {i k : α} {own : List α} (hi : i ∈ own) (hk : k ∉ own) : i ≠ k := fun z => hk (z ▸ hi)
section
variable {X : Cx} {W : WX} {K : PySem.W.Frag} {S : Fz} {H : Hp} {h : Hq}
def wipeT (s : Sl) : List Nat → Sl
  | [] => s
  | v :: vs => (wipeT s vs).set v none
theorem wipeT_some {s : Sl} {i : Nat} {t : T} : ∀ {vs : List Nat}, (wipeT s vs)[i]? = some (some t) → s[i]? = some (some t) ∧ i ∉ vs
  | [], h => ⟨h, by simp⟩
  | v :: vs, h => by
    unfold wipeT at h
    by_cases c : v = i
    · subst c
      rw [List.getElem?_set] at h
      simp only [if_true] at h
      split at h
      · cases h
      · cases h
    · rw [List.getElem?_set_ne c] at h
      obtain ⟨a, b⟩ := wipeT_some h
      exact ⟨a, by simp only [List.mem_cons, not_or]; exact ⟨fun z => c z.symm, b⟩⟩
theorem wipeT_len (s : Sl) : ∀ vs : List Nat, (wipeT s vs).length = s.length
  | [] => rfl
  | v :: vs => by unfold wipeT; rw [List.length_set, wipeT_len s vs]
theorem wipe_get (σ : L2.St) {k : Nat} : ∀ {vs : List Nat}, k ∉ vs → (wipe σ vs)[k]? = σ[k]?
  | [], _ => rfl
  | v :: vs, h => by
    unfold wipe
    simp only [List.mem_cons, not_or] at h
    rw [List.getElem?_set_ne (fun z => h.1 z.symm)]
    exact wipe_get σ h.2
theorem wipe_in (σ : L2.St) {k : Nat} : ∀ {vs : List Nat}, k ∈ vs → k < σ.length → (wipe σ vs)[k]? = some none
  | v :: vs, h, hl => by
    unfold wipe
    by_cases c : v = k
    · subst c
      rw [List.getElem?_set_self (by rw [wipe_length]; exact hl)]
    · rw [List.getElem?_set_ne c]
      rcases List.mem_cons.mp h with z | z
      · exact absurd z.symm c
      · exact wipe_in σ z hl
theorem wipe_same {σ σ2 : L2.St} {vs : List Nat} (hl : σ2.length = σ.length) (e : ∀ k, k ∉ vs → σ2[k]? = σ[k]?) : wipe σ2 vs = wipe σ vs := by
  apply List.ext_getElem?
  intro k
  by_cases c : k ∈ vs
  · by_cases l : k < σ.length
    · rw [wipe_in σ c l, wipe_in σ2 c (by rw [hl]; exact l)]
    · rw [List.getElem?_eq_none_iff.mpr (by rw [wipe_length]; omega), List.getElem?_eq_none_iff.mpr (by rw [wipe_length]; omega)]
  · rw [wipe_get σ c, wipe_get σ2 c, e k c]
theorem RepS.wipe {σ : L2.St} {s : Sl} (r : RepS K S H σ s) (vs : List Nat) : RepS K S H (wipe σ vs) (wipeT s vs) := ⟨by rw [wipe_length, wipeT_len, r.len], fun i t e => by
  obtain ⟨a, b⟩ := wipeT_some e
  obtain ⟨v, h1, h2⟩ := r.at_ i t a
  exact ⟨v, by rw [wipe_get σ b]; exact h1, h2⟩⟩
def CTg (K : PySem.W.Frag) (g' : TG) (g : T → Sl → Option Sl) (own : List Nat) : Prop := ∀ S H h v t σ s s2 Q', Sim K S H h → RepS K S H σ s → Rep K S H v t → g t s = some s2 →
  (∀ σ2, RepS K S H σ2 s2 → wipe σ2 own = wipe σ own → Q' σ2 H) → g' v (wipe σ own) H Q'
def cN (i : Nat) (own : List Nat) : T → Sl → Option Sl := fun t s => some ((wipeT s own).set i (some t))
theorem ct_name {i : Nat} {own : List Nat} (hi : i ∈ own) : CTg K (L2.gName i) (cN i own) own := fun S H h v t σ s s2 Q' m rs r e q => by
  cases e
  refine q _ ((rs.wipe own).set r i) ?_
  refine wipe_same (by rw [List.length_set, wipe_length]) fun k hk => ?_
  rw [List.getElem?_set_ne (ne_mem hi hk), wipe_get σ hk]
def cN2 (i j : Nat) (own : List Nat) : T → Sl → Option Sl := fun t s => match t with
  | .tup [a, b] => some (((wipeT s own).set i (some a)).set j (some b))
  | _ => none
theorem Sim.follow (m : Sim K S H h) {p : Addr} {u : HO} {o : O} (e : h p = none) (n : ¬ S.has p) (hp : H p = some u) (r : RepO K S H u o) : Sim K S H (put h p o) where
  fr := fun a s => by rw [put_ne (neS s n)]; exact m.fr a s
  al := m.al
  dj := m.dj
  ob := fun a o' q => by
    by_cases c : a = p
    · subst c; rw [put_same] at q; cases q; exact ⟨u, hp, r⟩
    · rw [put_ne c] at q; exact m.ob a o' q
abbrev E0 : EX := fun _ _ _ => False
theorem lk0 : LkX K W S H E0 := fun _ _ _ _ _ _ _ _ _ _ _ _ z => z.elim
def LcK (fl : Bool) (ts : List T) (stay : Hq → Prop) (g : T → Sl → Option Sl) (tt : TM) (el : EM) (s : Sl) (h1 : Hq) (Q : TK) : Prop := ∃ I : Nat → List T → Hq → Prop, I 0 [] h1 ∧ ∀ i acc h, i ≤ ts.length → I i acc h → stay h ∧ match ts[i]? with
  | none => mk fl acc h Q
  | some t => acc.length < lim ∧ match g t s with
    | some s2 => tt s2 h (fun b h3 => if b = true then el s2 h3 (fun y h4 => I (i + 1) (acc ++ [y]) h4) E0 else I (i + 1) acc h3) E0
    | none => False
def eLc (fl : Bool) (src : IM) (g : T → Sl → Option Sl) (tt : TM) (el : EM) : EM := fun s h Q E => src s h (fun ts stay h1 => LcK fl ts stay g tt el s h1 Q) E
theorem lift_lc {fl : Bool} {src : IM} {g : T → Sl → Option Sl} {g' : TG} {tt : TM} {el : EM} {own : List Nat} (ct : CTg K g' g own) : ∀ σ H Q, liftE K W (eLc fl src g tt el) σ H Q → tLc (liftI K W src) g' (liftT K W0 tt) (liftE K W0 el) own σ H Q := fun σ H Q' ⟨S, h, s, Q, E, m, rs, lk, hm, pk⟩ => by
  refine ⟨S, h, s, _, E, m, rs, lk, hm, fun S1 H1 h1 J ts stay f1 m1 it q => ?_⟩
  obtain ⟨I, i0, step⟩ := q
  intro D nD
  have nS1 : ¬ S1.has D := m1.nS nD
  let Wd : Nat → Hp → Prop := fun i H2 => ∃ S2 h2 vs acc, Fut S1 H1 S2 H2 ∧ Sim K S2 H2 h2 ∧ H2 D = some (.lst vs) ∧ RepL K S2 H2 vs acc ∧ ¬ S2.has D ∧ h2 D = none ∧ I i acc h2
  refine ⟨fun i n H2 => n = ts.length - i ∧ i ≤ ts.length ∧ Wd i H2, ⟨ts.length, by simp, Nat.zero_le _, S1, h1, [], [], fut_upd nS1, m1.side nD, upd_same, .nil, nS1, m1.free nD, i0⟩, ?_⟩
  rintro i n H2 ⟨en, hi, S2, h2, vs, acc, f2, m2, hD, rD, nS2, nh2, i2⟩
  obtain ⟨st, q2⟩ := step i acc h2 hi i2
  have m2' : Sim K (TL.prot S2 D) H2 h2 := m2.prot nh2 (by rw [hD]; exact fun z => nomatch z) fun z => nS2 (.inl z)
  obtain ⟨go, stop⟩ := it (TL.prot S2 D) H2 h2 ⟨f2.sub, fun a z => f2.kp a (.inl z)⟩ m2' st
  cases e : ts[i]? with
  | none =>
    rw [e] at q2
    have hl : i = ts.length := Nat.le_antisymm hi (List.getElem?_eq_none_iff.mp e)
    refine .inl ⟨by rw [hl]; exact stop, ?_⟩
    cases fl with
    | true =>
      rw [mk_true] at q2
      have f3 : Fut S2 H2 (TL.plus S2 D) H2 := fut_plus Fut.refl
      exact pk _ H2 h2 _ _ ((f1.trans f2).trans f3) (m2.plus nh2 (by rw [hD]; exact fun z => nomatch z) fun z => nS2 (.inr z)) (.lst (.inr rfl) hD (rD.fut f3)) q2
    | false =>
      rw [mk_false] at q2
      exact pk S2 H2 _ _ _ (f1.trans f2) (m2.follow (o := .lst acc) nh2 nS2 hD ⟨vs, rfl, rD⟩) (.ref D) (q2 D nh2)
  | some t =>
    rw [e] at q2
    obtain ⟨la, q2⟩ := q2
    have hl : i < ts.length := (List.getElem?_eq_some_iff.mp e).1
    obtain ⟨g1, g2⟩ := go i t e
    refine .inr ⟨g1, Wd (i + 1), fun H' w => ⟨ts.length - (i + 1), by omega, rfl, hl, w⟩, fun x H3 y => ?_⟩
    obtain ⟨S3, f3, m3, r3⟩ := g2 x H3 y
    have u2 : Fu S H (TL.prot S2 D) H2 := ⟨fun a z => f2.sub a (f1.sub a z), fun a z => (f1.trans f2).kp a (.inl z)⟩
    have rs3 : RepS K S3 H3 σ s := rs.fu (u2.trans f3.fu)
    split at q2
    · rename_i s2 eg
      refine ct S3 H3 h2 x t σ s s2 _ m3 rs3 r3 eg fun σ2 r2 ew => ⟨ew, ?_⟩
      refine ⟨S3, h2, s2, _, E0, m3, r2, lk0, q2, fun S4 H4 h4 b f4 m4 q4 => ?_⟩
      have back : ∀ {S5 : Fz} {H5 : Hp} {h5 : Hq} {ws : List V} {acc' : List T}, Fut (TL.prot S2 D) H2 S5 H5 → Sim K S5 H5 h5 → RepL K S5 H5 ws acc' → I (i + 1) acc' h5 → Wd (i + 1) (upd H5 D (.lst ws)) := fun {S5 H5 h5 ws acc'} f5 m5 r5 q5 => by
        have pD : S5.p D := by rw [f5.pe]; exact .inr rfl
        have nD5 : ¬ S5.s D := fun z => m5.dj D z pD
        have n6 : ¬ (TL.unp S2 S5).has D := fun z => z.elim nD5 fun z => nS2 (.inr z)
        refine ⟨TL.unp S2 S5, h5, ws, acc', ⟨fun a z => f5.sub a (f2.sub a z), fun a z => ?_, f2.pe⟩, (m5.unp f5.pe).side' (m5.fr D (.inr pD)) n6, upd_same, ?_, n6, m5.fr D (.inr pD), q5⟩
        · rw [upd_ne (neS z nS1), f5.kp a (z.elim (fun w => .inl (f2.sub a w)) fun w => .inr (.inl (by rw [f2.pe]; exact w))), f2.kp a z]
        · exact r5.fu (S := S5) (S1 := TL.unp S2 S5) ⟨fun a z => z, fun a z => upd_ne (show a ≠ D from fun w => nD5 (by rw [← w]; exact z))⟩
      have old : ∀ {S5 : Fz} {H5 : Hp}, Fut (TL.prot S2 D) H2 S5 H5 → H5 D = some (.lst vs) ∧ RepL K S5 H5 vs acc := fun {S5 H5} f5 => ⟨(f5.kp D (.inr (.inr rfl))).trans hD, RepL.fu (S := S2) ⟨f5.sub, fun a z => f5.kp a (.inl z)⟩ rD⟩
      cases b with
      | true =>
        rw [if_pos rfl] at q4
        refine iteT ?_
        refine ⟨S4, h4, s2, _, E0, m4, r2.fut f4, lk0, q4, fun S5 H5 h5 v y f5 m5 r5 q5 => ?_⟩
        have f25 := (f3.trans f4).trans f5
        obtain ⟨hD5, rD5⟩ := old f25
        exact ⟨vs, hD5, lim_lt (by rw [rD.length]; exact Nat.le_of_lt la), back f25 m5 (rD5.append (.cons r5 .nil)) q5⟩
      | false =>
        rw [if_neg Bool.false_ne_true] at q4
        refine iteF ?_
        have f24 := f3.trans f4
        obtain ⟨hD4, rD4⟩ := old f24
        have w := back f24 m4 rD4 q4
        have eu : upd H4 D (.lst vs) = H4 := by
          funext a
          unfold upd
          split
          · rename_i z; rw [z, hD4]
          · rfl
        rw [eu] at w
        exact w
    · exact q2.elim
theorem j_lc (fl : Bool) {elt tg iter : Expr} {ifs : List Expr} {scope : Scope} {own : List (Str × Nat)} {pos : Pos} {src : IM} {g : T → Sl → Option Sl} {g' : TG} {tt : TM} {el : EM} (hc : X.calm = true) (hN : X.N.Nodup) (ct : CTg X.K g' g (own.map (·.2))) (hi : JI X W tg iter src) (ok : BlkOk X.N X.env.scope scope own)
    (hg : ∀ (s : Shared) (H : Hp) (C : Addr) (cl : List (Str × Addr)) (fp : List Addr), PG (X.blk s H scope (compEnvC scope cl C X.env) fp) tg g')
    (ht : ∀ (s : Shared) (H : Hp) (C : Addr) (cl : List (Str × Addr)) (fp : List Addr), PTs (X.blk s H scope (compEnvC scope cl C X.env) fp) ifs (liftT X.K W0 tt))
    (he : ∀ (s : Shared) (H : Hp) (C : Addr) (cl : List (Str × Addr)) (fp : List Addr), JE (X.blk s H scope (compEnvC scope cl C X.env) fp) W0 elt el) (hs : ∀ x, foldedSetIterable iter X.env x = pure x := by intro _; rfl) :
    JE X W (.ListComp elt [⟨tg, iter, ifs, 0⟩] scope pos) (eLc fl src g tt el) := PE.wk (pe_lc (te := liftE X.K W0 el) hc hN hi ok hg ht he hs) (lift_lc ct)
def tYes : TM := fun _ h Q _ => Q true h
theorem jts_nil : PTs X [] (liftT K W tYes) := ⟨fun pins s σ H Q I hw => pts_nil.run pins s σ H Q I (by
  obtain ⟨S, h, t, Q', E, m, rs, lk, hm, pk⟩ := hw
  exact pk S H h true Fut.refl m hm)⟩
theorem jts_one {c : Expr} {m : TM} (h : JT X W c m) : PTs X [c] (liftT X.K W m) := pts_one h
theorem js_setLc (fl : Bool) {i : Nat} {y : Str} {py : Pos} {elt tg iter : Expr} {ifs : List Expr} {scope : Scope} {own : List (Str × Nat)} {pos spos : Pos} {src : IM} {g : T → Sl → Option Sl} {g' : TG} {tt : TM} {el : EM} (hc : X.calm = true) (hN : X.N.Nodup) (hy : X.N[i]? = some y) (hyl : X.env.scope.names.lookup y = some .local)
    (hsw : swapsWith (.ListComp elt [⟨tg, iter, ifs, 0⟩] scope pos) (some (.Name y py)) spos.line X.env = pure true) (ct : CTg X.K g' g (own.map (·.2))) (hi : JI X W tg iter src) (ok : BlkOk X.N X.env.scope scope own)
    (hg : ∀ (s : Shared) (H : Hp) (C : Addr) (cl : List (Str × Addr)) (fp : List Addr), PG (X.blk s H scope (compEnvC scope cl C X.env) fp) tg g')
    (ht : ∀ (s : Shared) (H : Hp) (C : Addr) (cl : List (Str × Addr)) (fp : List Addr), PTs (X.blk s H scope (compEnvC scope cl C X.env) fp) ifs (liftT X.K W0 tt))
    (he : ∀ (s : Shared) (H : Hp) (C : Addr) (cl : List (Str × Addr)) (fp : List Addr), JE (X.blk s H scope (compEnvC scope cl C X.env) fp) W0 elt el) (hs : ∀ x, foldedSetIterable iter X.env x = pure x := by intro _; rfl) :
    JS X W (.Assign [.Name y py] (.ListComp elt [⟨tg, iter, ifs, 0⟩] scope pos) spos) (sAsg (eLc fl src g tt el) (gN i)) := PS.wk (ps_setLc (te := liftE X.K W0 el) hc hN hy hyl hsw hi ok hg ht he hs) fun D' σ H ⟨S, h, s, D, m, rs, lk, hm⟩ =>
  lift_lc ct σ H _ ⟨S, h, s, _, D.ex, m, rs, lk.ex, hm, fun S1 H1 h1 v x f1 m1 r1 q1 => lk.nx S1 H1 h1 _ _ f1 m1 ((rs.fut f1).set r1 i) q1⟩

def startT (N : Nat) (ts : List T) : Sl := ts.map some ++ List.replicate (N - ts.length) none
def Sub (h2 h1 : Hq) : Prop := ∀ a o, h2 a = some o → h1 a = some o
def dn (Q : TK) : TK := fun u h1 => ∃ h2, Sub h2 h1 ∧ Q u h2
def dnX (E : Ex → Hq → Prop) : Ex → Hq → Prop := fun x h1 => ∃ h2, Sub h2 h1 ∧ E x h2
theorem dn_self {Q : TK} {u : T} {h : Hq} (q : Q u h) : dn Q u h := ⟨h, fun _ _ e => e, q⟩
theorem dnX_self {E : Ex → Hq → Prop} {u : Ex} {h : Hq} (q : E u h) : dnX E u h := ⟨h, fun _ _ e => e, q⟩
theorem Sub.put {h1 h2 : Hq} (s : Sub h2 h1) {p : Addr} {o : O} : Sub (TL.put h2 p o) (TL.put h1 p o) := fun a u q => by
  by_cases c : a = p
  · subst c; rw [put_same] at q ⊢; exact q
  · rw [put_ne c] at q ⊢; exact s a u q
def ends (Q : TK) (E : Ex → Hq → Prop) : En := { nx := fun _ h => dn Q .non h, rt := dn Q, ex := fun x _ h => dnX E x h }
theorem fn_ok {CX : CXT} {P : Program} {w : World} {mg : Str → Option Value} {base : Heap} {x qual : Str} {st : Stmt} {f : Addr} {fd : FuncData} {N ps : List Str} {k : Nat} {c : Con} {B : SM} (F : Fun K x qual st f fd) (sc : FnScope N ps (defScope st)) (hl : ps.length ≤ N.length)
    (J : ∀ (cdv : Value) (A : Around) (outer : List Env) (s : Shared) (H : Hp) (E : XK), Room k (A.deeper (PyProof.Rows.envOfC qual (defScope st) s.heap.objs.size f cdv)) →
      JSs (cxOf CX P w K mg base N qual (defScope st) f cdv A outer s H E) (fun cls d _ H => E cls d H) (defBody st) B)
    (pl : ∀ ts h Q E, ts.length = ps.length → c ts h Q E → B (ends Q E) (startT N.length ts) h) : FnOk P w K mg base CX (k + 1) f fd ps (liftSp K ps.length c) := by
  refine F.okC sc (fun vs H Q E ⟨S, h, ts, Q', E', m, r, l, _⟩ => r.length.trans l) fun cdv A outer s H vs Q E hr ⟨S, h, ts, Q', E', m, r, l, q, pk, px⟩ => ⟨_, J cdv A outer s H E hr, ?_⟩
  refine ⟨S, h, startT N.length ts, ends Q' E', m, ?_, ?_, pl ts h Q' E' l q⟩
  · have := RepS.start (N := N) r (by rw [r.length, l]; exact hl)
    exact this
  · exact { nx := fun S1 H1 h1 σ1 s1 f1 m1 r1 ⟨h2, z, q1⟩ => pk S1 H1 h2 _ _ f1 (m1.sub z) .non q1, rt := fun S1 H1 h1 v u f1 m1 r1 ⟨h2, z, q1⟩ => pk S1 H1 h2 _ _ f1 (m1.sub z) r1 q1, bk := fun _ _ _ _ _ _ _ _ z => z.elim, ct := fun _ _ _ _ _ _ _ _ z => z.elim,
            ex := fun S1 H1 h1 σ1 s1 x cls d f1 m1 r1 rx ⟨h2, z, q1⟩ => px S1 H1 h2 x cls d f1 (m1.sub z) rx q1 }
theorem fn_wk {P : Program} {w : World} {mg : Str → Option Value} {base : Heap} {CX : CXT} {f : Addr} {fd : FuncData} {ps : List Str} {k : Nat} {sp sp' : Sp} (F : FnOk P w K mg base CX k f fd ps sp) (hs : ∀ vs H Q E, sp' vs H Q E → sp vs H Q E) : FnOk P w K mg base CX k f fd ps sp' :=
  ⟨fun vs H Q E q => F.len vs H Q E (hs vs H Q E q), fun A outer s H args us vs Q E hr e0 b v q => F.run A outer s H args us vs Q E hr e0 b v (hs vs H Q E q)⟩
end
end TL

namespace TL
open PySem L2
inductive Kd where | non | bl | int | str | tup | lst
  deriving DecidableEq
def Kd.nm : Kd → String
  | .non => "NoneType" | .bl => "bool" | .int => "int" | .str => "str" | .tup => "tuple" | .lst => "list"
def kdOf (h : Hq) : T → Option Kd
  | .non => some .non
  | .bl _ => some .bl
  | .int _ => some .int
  | .str _ => some .str
  | .tup _ => some .tup
  | .lst _ => some .lst
  | .ref a => match h a with
    | some (.lst _) => some .lst
    | _ => none
  | _ => none
def isK (k c : Kd) : Bool := decide (k = c) || (decide (k = .bl) && decide (c = .int))
def kdN (n : String) : Option Kd := if n = "int" then some .int else if n = "bool" then some .bl else if n = "str" then some .str else if n = "tuple" then some .tup else if n = "list" then some .lst else none
theorem kit_all : ∀ k c : Kd, c ≠ .non → kitB k.nm c.nm = some (isK k c) := by
  intro k c h
  cases k <;> cases c <;> first | exact absurd rfl h | decide +kernel
theorem kdN_nm {n : String} {c : Kd} (e : kdN n = some c) : n = c.nm ∧ c ≠ .non := by
  unfold kdN at e
  repeat' split at e
  all_goals (cases e; try exact ⟨by assumption, by decide⟩)
section
variable {X : Cx} {W : WX} {K : PySem.W.Frag} {S : Fz} {H : Hp} {h : Hq}
theorem kd_ty (m : Sim K S H h) {v : V} {x : T} {k : Kd} (r : Rep K S H v x) (e : kdOf h x = some k) : TyX K H v (.type k.nm) := by
  cases r with
  | non => cases e; exact .base .non
  | bl b => cases e; exact .base (.bl b)
  | int i => cases e; exact .base (.int i)
  | str x => cases e; exact .base (.str x)
  | tup s hh r => cases e; exact .base (.tup hh)
  | tupK hh kx r =>
    cases e
    obtain ⟨o, its, n, h1, h2, h3, h4, h5⟩ := hh
    exact .kTuple h1 h2
  | lst s hh r => cases e; exact .base (.lst hh)
  | ref a =>
    simp only [kdOf] at e
    split at e
    · rename_i ts z
      cases e
      obtain ⟨vs, e1, _⟩ := ref_lst m z
      exact .base (.lst e1)
    · cases e
  | ins _ _ _ => cases e
  | ty _ => cases e
  | scr _ _ => cases e
  | scrK _ => cases e
  | exc _ _ _ => cases e
  | exc0 => cases e
  | xob _ _ _ _ _ _ => cases e
def oIsi : RLT := fun xs h Q => match xs with
  | [x, .ty n] => match kdOf h x, kdN n with
    | some k, some c => Q (.bl (isK k c)) h
    | _, _ => False
  | _ => False
theorem c_isi : CP K (rIsi K) oIsi := fun S H h vs xs Q Q' m r q pk => by
  unfold oIsi at q
  split at q
  · cases r with
    | cons r1 rn => cases rn with
      | cons r2 rn =>
        cases rn
        split at q
        · rename_i k c e1 e2
          obtain ⟨rfl, hc⟩ := kdN_nm e2
          cases r2
          exact ⟨_, _, _, _, _, rfl, .ty _, kd_ty m r1 e1, kit_ty (kit_all k c hc), pk S H h _ _ Fut.refl m (.bl _) q⟩
        · exact q.elim
  · exact q.elim

def poolOk (a b : Int) : Prop := 0 ≤ a ∧ 0 ≤ b ∧ b < 2147483647
theorem Sim.unpool (m : Sim K S H h) {p : Addr} (e : h p = some .pool) : ∃ a b, poolOk a b ∧ Sim K S H (put h p (.lst [.int a, .int b])) := by
  obtain ⟨u, e1, a, b, e2, o1, o2, o3⟩ := m.ob p _ e
  refine ⟨a, b, ⟨o1, o2, o3⟩, ⟨fun c s => ?_, m.al, m.dj, fun c o q => ?_⟩⟩
  · rw [put_ne (neS s (m.nS' e))]; exact m.fr c s
  · by_cases z : c = p
    · subst z; rw [put_same] at q; cases q; exact ⟨u, e1, _, e2, .cons (.int a) (.cons (.int b) .nil)⟩
    · rw [put_ne z] at q; exact m.ob c o q
theorem Sim.repool {p : Addr} {a b : Int} (m : Sim K S H (put h p (.lst [.int a, .int b]))) (o : poolOk a b) : Sim K S H (put h p .pool) := by
  refine ⟨fun c s => ?_, m.al, m.dj, fun c o' q => ?_⟩
  · have z := m.fr c s
    by_cases y : c = p
    · subst y; rw [put_same] at z; cases z
    · rw [put_ne y] at z ⊢; exact z
  · by_cases z : c = p
    · subst z
      rw [put_same] at q; cases q
      obtain ⟨u, e1, vs, e2, r⟩ := m.ob c (.lst [.int a, .int b]) put_same
      have := RepL.ints (ns := [a, b]) r
      exact ⟨u, e1, a, b, by rw [e2, this]; rfl, o⟩
    · rw [put_ne z] at q
      exact m.ob c o' (by rw [put_ne z]; exact q)
def CxHand : Con := fun ts h Q _ => ∃ ns k, ts = [.scr ns, .int k] ∧ 0 ≤ k ∧ k ≤ 63 ∧ ns.length ≤ 63 ∧ ∀ a b, poolOk a b → ∀ p, h p = none → Q (.ref p) (put h p (.lst [.int a, .int b]))
def CHand : Con := fun ts h Q _ => ∃ ns k, ts = [.scr ns, .int k] ∧ 0 ≤ k ∧ k ≤ 63 ∧ ns.length ≤ 63 ∧ ∀ p, h p = none → Q (.ref p) (put h p .pool)
theorem hand_wk : ∀ vs H Q E, liftSp K 2 CHand vs H Q E → liftSp K 2 CxHand vs H Q E := fun vs H Q' E' ⟨S, h, ts, Q, E, m, r, l, ⟨ns, k, et, k0, k1, hn, q⟩, pk, px⟩ =>
  ⟨S, h, ts, fun u h1 => ∃ p a b, poolOk a b ∧ h p = none ∧ u = .ref p ∧ h1 = put h p (.lst [.int a, .int b]), E, m, r, l, ⟨ns, k, et, k0, k1, hn, fun a b o p hp => ⟨p, a, b, o, hp, rfl, rfl⟩⟩, fun S1 H1 h1 v u f1 m1 r1 ⟨p, a, b, o, hp, eu, eh⟩ => by
    subst eu eh
    exact pk S1 H1 _ v _ f1 (m1.repool o) r1 (q p hp), px⟩
def CxDraw : Con := fun ts h Q _ => ∃ p n a b, ts = [.ref p, .int n] ∧ 0 < n ∧ n < 2 ^ 250 ∧ h p = some (.lst [.int a, .int b]) ∧ poolOk a b ∧ ∀ r a' b', 0 ≤ r → r < n → poolOk a' b' → Q (.int r) (put h p (.lst [.int a', .int b']))
def CDraw : Con := fun ts h Q _ => ∃ p n, ts = [.ref p, .int n] ∧ 0 < n ∧ n < 2 ^ 250 ∧ h p = some .pool ∧ ∀ r, 0 ≤ r → r < n → Q (.int r) h
theorem draw_wk : ∀ vs H Q E, liftSp K 2 CDraw vs H Q E → liftSp K 2 CxDraw vs H Q E := fun vs H Q' E' ⟨S, h, ts, Q, E, m, r, l, ⟨p, n, et, n0, n1, hp, q⟩, pk, px⟩ => by
  obtain ⟨a, b, o, m'⟩ := m.unpool hp
  refine ⟨S, _, ts, fun u h1 => ∃ r a' b', 0 ≤ r ∧ r < n ∧ poolOk a' b' ∧ u = .int r ∧ h1 = put h p (.lst [.int a', .int b']), fun _ _ => False, m', r, l, ⟨p, n, a, b, et, n0, n1, put_same, o, fun r a' b' r0 r1 o' => ⟨r, a', b', r0, r1, o', rfl, by rw [put_put]⟩⟩, fun S1 H1 h1 v u f1 m1 r1 ⟨r, a', b', r0, r1', o', eu, eh⟩ => ?_, fun _ _ _ _ _ _ _ _ _ z => z.elim⟩
  subst eu eh
  have m2 := m1.repool o'
  rw [put_id hp] at m2
  exact pk S1 H1 _ v _ f1 m2 r1 (q r r0 r1')
theorem law_start {c : Con} {H : Hp} {a : Addr} {ns : List Int} (hS : SqL K H a (ns.map V.int)) (hc : c [.scr ns] (fun _ => none) (fun u _ => u = .bl true) fun _ _ => False) : liftSp K 1 c [.ref a] H (fun v _ => v = .bl true) fun _ _ _ => False := by
  rcases hS with hS | hS
  · have ha : H a ≠ none := by rcases hS with z | ⟨o, z⟩ <;> (rw [z]; exact fun y => nomatch y)
    exact ⟨⟨fun b => b = a, fun _ => False⟩, fun _ => none, [.scr ns], _, _, ⟨fun _ _ => rfl, fun b s => s.elim (fun z => by rw [z]; exact ha) False.elim, fun _ _ z => z, fun _ _ z => nomatch z⟩, .cons (.scr rfl hS) .nil, rfl, hc, fun S1 H1 h1 v u f1 m1 r1 e => by
      subst e; cases r1; rfl, fun _ _ _ _ _ _ _ _ _ z => z.elim⟩
  · exact ⟨⟨fun b => False, fun _ => False⟩, fun _ => none, [.scr ns], _, _, ⟨fun _ _ => rfl, fun b s => s.elim False.elim False.elim, fun _ z => z.elim, fun _ _ z => nomatch z⟩, .cons (.scrK hS) .nil, rfl, hc, fun S1 H1 h1 v u f1 m1 r1 e => by
      subst e; cases r1; rfl, fun _ _ _ _ _ _ _ _ _ z => z.elim⟩
theorem no_law {P : Program} {w : World} {H : Hp} {s : Shared} {e : Value} {s' : Shared} (c : L2.CX P w [] H s (fun _ _ _ => False) e s') : False := by
  obtain ⟨_, _, _, _, _, _, _, _, _, _, _, _, z⟩ := c
  exact z
end
end TL

namespace TL
open PySem L2
theorem atI_nat' {α : Type} {xs : List α} {n : Nat} {x : α} (h : xs[n]? = some x) : atI xs (n : Int) = some x := by
  unfold atI ixN
  have hl : n < xs.length := (List.getElem?_eq_some_iff.mp h).1
  rw [if_pos (by omega), if_pos (by omega)]
  simpa using h
theorem atI_0 {α : Type} {x : α} {xs : List α} : atI (x :: xs) 0 = some x := atI_nat' (n := 0) rfl
theorem atI_1 {α : Type} {a x : α} {xs : List α} : atI (a :: x :: xs) 1 = some x := atI_nat' (n := 1) rfl
theorem atI_2 {α : Type} {a b x : α} {xs : List α} : atI (a :: b :: x :: xs) 2 = some x := atI_nat' (n := 2) rfl
theorem atI_3 {α : Type} {a b c x : α} {xs : List α} : atI (a :: b :: c :: x :: xs) 3 = some x := atI_nat' (n := 3) rfl
theorem atI_4 {α : Type} {a b c d x : α} {xs : List α} : atI (a :: b :: c :: d :: x :: xs) 4 = some x := atI_nat' (n := 4) rfl
theorem atI_5 {α : Type} {a b c d e x : α} {xs : List α} : atI (a :: b :: c :: d :: e :: x :: xs) 5 = some x := atI_nat' (n := 5) rfl
theorem atI_6 {α : Type} {a b c d e f x : α} {xs : List α} : atI (a :: b :: c :: d :: e :: f :: x :: xs) 6 = some x := atI_nat' (n := 6) rfl
theorem atI_7 {α : Type} {a b c d e f g x : α} {xs : List α} : atI (a :: b :: c :: d :: e :: f :: g :: x :: xs) 7 = some x := atI_nat' (n := 7) rfl
theorem atI_8 {α : Type} {a b c d e f g h x : α} {xs : List α} : atI (a :: b :: c :: d :: e :: f :: g :: h :: x :: xs) 8 = some x := atI_nat' (n := 8) rfl
theorem atI_m1 {α : Type} {x : α} {xs : List α} : atI (xs ++ [x]) (-1) = some x := by
  unfold atI ixN
  rw [if_neg (by omega), if_pos (by simp; omega)]
  have e : (-1 + (((xs ++ [x]).length : Nat) : Int)).toNat = xs.length := by simp; omega
  show (xs ++ [x])[(-1 + (((xs ++ [x]).length : Nat) : Int)).toNat]? = some x
  rw [e]
  simp
theorem ixN_0 {n : Nat} : ixN (n + 1) 0 = some 0 := by unfold ixN; rw [if_pos (by omega), if_pos (by omega)]; rfl
theorem ixN_1 {n : Nat} : ixN (n + 1 + 1) 1 = some 1 := by unfold ixN; rw [if_pos (by omega), if_pos (by omega)]; rfl
theorem ixN_nat {n i : Nat} (h : i < n) : ixN n (i : Int) = some i := by unfold ixN; rw [if_pos (by omega), if_pos (by omega)]; simp
theorem atI_map {α β : Type} {f : α → β} {xs : List α} {i : Nat} {x : α} (h : xs[i]? = some x) : atI (xs.map f) (i : Int) = some (f x) := atI_nat' (by rw [List.getElem?_map, h]; rfl)

theorem kdN_int : kdN "int" = some .int := by decide
theorem kdN_bool : kdN "bool" = some .bl := by decide
theorem kdN_str : kdN "str" = some .str := by decide
theorem kdN_list : kdN "list" = some .lst := by decide
theorem kdN_tuple : kdN "tuple" = some .tup := by decide
theorem view_int {h : Hq} {i : Int} : view h (.int i) = .int i := rfl
theorem view_non {h : Hq} : view h .non = .non := rfl
theorem dep_int {i : Int} : depth? (.int i) = true := rfl
theorem dep_non : depth? .non = true := rfl

def dat : Nat → T → Bool
  | 0, _ => false
  | _ + 1, .non => true
  | _ + 1, .bl _ => true
  | _ + 1, .int _ => true
  | _ + 1, .str x => PyData.strOk x
  | n + 1, .tup ts => ts.all (dat n)
  | n + 1, .lst ts => ts.all (dat n)
  | _ + 1, _ => false
theorem dat_toDs {n : Nat} (ih : ∀ t, dat n t = true → ∃ d, toD t = some d ∧ d.depth ≤ n) : ∀ ts : List T, ts.all (dat n) = true → ∃ ds, toDs ts = some ds ∧ PyData.depthAll ds ≤ n
  | [], _ => ⟨[], rfl, Nat.zero_le _⟩
  | t :: ts, h => by
    rw [List.all_cons, Bool.and_eq_true] at h
    obtain ⟨d, e1, n1⟩ := ih t h.1
    obtain ⟨ds, e2, n2⟩ := dat_toDs ih ts h.2
    refine ⟨d :: ds, by unfold toDs; rw [e1, e2], ?_⟩
    unfold PyData.depthAll
    omega
theorem dat_toD : ∀ (n : Nat) (t : T), dat n t = true → ∃ d, toD t = some d ∧ d.depth ≤ n
  | 0, _, h => by cases h
  | n + 1, .non, _ => ⟨_, rfl, by unfold PyData.depth; omega⟩
  | n + 1, .bl _, _ => ⟨_, rfl, by unfold PyData.depth; omega⟩
  | n + 1, .int _, _ => ⟨_, rfl, by unfold PyData.depth; omega⟩
  | n + 1, .str x, h => ⟨.str x, by unfold toD; exact if_pos h, by unfold PyData.depth; omega⟩
  | n + 1, .tup ts, h => by
    obtain ⟨ds, e, k⟩ := dat_toDs (dat_toD n) ts h
    exact ⟨.tuple ds, by unfold toD; rw [e]; rfl, by unfold PyData.depth; omega⟩
  | n + 1, .lst ts, h => by
    obtain ⟨ds, e, k⟩ := dat_toDs (dat_toD n) ts h
    exact ⟨.list ds, by unfold toD; rw [e]; rfl, by unfold PyData.depth; omega⟩
  | n + 1, .ins _ _, h => by cases h
  | n + 1, .ref _, h => by cases h
  | n + 1, .ty _, h => by cases h
  | n + 1, .scr _, h => by cases h
theorem dep {n : Nat} {t : T} (h : dat n t = true) (hn : n ≤ 64 := by decide) : depth? t = true := by
  obtain ⟨d, e, k⟩ := dat_toD n t h
  unfold depth?
  rw [e]
  exact decide_eq_true (by omega)
def cln : Nat → T → Bool
  | 0, _ => false
  | _ + 1, .non => true
  | _ + 1, .int _ => true
  | _ + 1, .str x => PyData.strOk x
  | n + 1, .tup ts => ts.all (cln n)
  | n + 1, .lst ts => ts.all (cln n)
  | _ + 1, _ => false
theorem cln_dat : ∀ (n : Nat) (t : T), cln n t = true → dat n t = true
  | 0, _, h => by cases h
  | n + 1, .non, _ => rfl
  | n + 1, .int _, _ => rfl
  | n + 1, .str x, h => h
  | n + 1, .tup ts, h => by
    unfold cln at h; unfold dat
    rw [List.all_eq_true] at *
    exact fun x hx => cln_dat n x (h x hx)
  | n + 1, .lst ts, h => by
    unfold cln at h; unfold dat
    rw [List.all_eq_true] at *
    exact fun x hx => cln_dat n x (h x hx)
  | n + 1, .bl _, h => by cases h
  | n + 1, .ins _ _, h => by cases h
  | n + 1, .ref _, h => by cases h
  | n + 1, .ty _, h => by cases h
  | n + 1, .scr _, h => by cases h
def eqTs : List T → List T → Bool
  | [], [] => true
  | x :: xs, y :: ys => eqT x y && eqTs xs ys
  | _, _ => false
theorem eqTs_ok : ∀ {xs ys : List T} {ds es : List PyData}, toDs xs = some ds → toDs ys = some es → PyData.eqvAll ds es = eqTs xs ys
  | [], [], _, _, e1, e2 => by cases e1; cases e2; rfl
  | [], y :: ys, _, _, e1, e2 => by
    cases e1
    unfold toDs at e2
    split at e2
    · cases e2; rfl
    · cases e2
  | x :: xs, [], _, _, e1, e2 => by
    cases e2
    unfold toDs at e1
    split at e1
    · cases e1; rfl
    · cases e1
  | x :: xs, y :: ys, _, _, e1, e2 => by
    unfold toDs at e1 e2
    split at e1
    · rename_i d ds a1 a2
      split at e2
      · rename_i e es b1 b2
        cases e1; cases e2
        show (PyData.eqv d e && PyData.eqvAll ds es) = (eqT x y && eqTs xs ys)
        rw [eqTs_ok a2 b2]
        unfold eqT
        rw [a1, b1]
      · cases e2
    · cases e1
theorem eqT_lst {n m : Nat} {xs ys : List T} (h1 : dat n (.lst xs) = true) (h2 : dat m (.lst ys) = true) : eqT (.lst xs) (.lst ys) = eqTs xs ys := by
  obtain ⟨d, e1, _⟩ := dat_toD _ _ h1
  obtain ⟨e, e2, _⟩ := dat_toD _ _ h2
  unfold eqT
  rw [e1, e2]
  unfold toD at e1 e2
  cases a : toDs xs with
  | none => rw [a] at e1; cases e1
  | some ds =>
    cases b : toDs ys with
    | none => rw [b] at e2; cases e2
    | some es =>
      rw [a] at e1; rw [b] at e2
      cases e1; cases e2
      exact eqTs_ok a b
theorem eqT_tup {n m : Nat} {xs ys : List T} (h1 : dat n (.tup xs) = true) (h2 : dat m (.tup ys) = true) : eqT (.tup xs) (.tup ys) = eqTs xs ys := by
  obtain ⟨d, e1, _⟩ := dat_toD _ _ h1
  obtain ⟨e, e2, _⟩ := dat_toD _ _ h2
  unfold eqT
  rw [e1, e2]
  unfold toD at e1 e2
  cases a : toDs xs with
  | none => rw [a] at e1; cases e1
  | some ds =>
    cases b : toDs ys with
    | none => rw [b] at e2; cases e2
    | some es =>
      rw [a] at e1; rw [b] at e2
      cases e1; cases e2
      exact eqTs_ok a b
theorem eqT_int (i j : Int) : eqT (.int i) (.int j) = decide (i = j) := by
  show (i == j) = _
  rw [Bool.beq_eq_decide_eq]
theorem eqT_nn : eqT .non .non = true := rfl
theorem eqT_in (i : Int) : eqT (.int i) .non = false := rfl
theorem eqT_ni (i : Int) : eqT .non (.int i) = false := rfl
theorem eqT_str {x y : Str} (h1 : PyData.strOk x = true) (h2 : PyData.strOk y = true) : eqT (.str x) (.str y) = decide (x = y) := by
  unfold eqT toD
  rw [if_pos h1, if_pos h2]
  show (x == y) = _
  rw [Bool.beq_eq_decide_eq]
mutual
theorem eqT_iff : ∀ (n : Nat) (x y : T), cln n x = true → cln n y = true → (eqT x y = true ↔ x = y)
  | 0, _, _, h, _ => by cases h
  | n + 1, x, y, h1, h2 => by
    have no : ∀ {a b : T}, eqT a b = false → a ≠ b → (eqT a b = true ↔ a = b) := fun e d => ⟨fun q => (by rw [e] at q; cases q), fun q => absurd q d⟩
    have kind : ∀ {k : PyData} {a b : T}, toD a = some k → (∀ e, toD b = some e → PyData.eqv k e = false) → eqT a b = false := fun {k a b} e f => by
      unfold eqT
      rw [e]
      split
      · rename_i d e' q1 q2; cases q1; exact f _ q2
      · rfl
    have lstD : ∀ {ts : List T} {e : PyData}, toD (.lst ts) = some e → ∃ es, e = .list es := fun {ts e} q => by
      unfold toD at q
      cases a : toDs ts with
      | none => rw [a] at q; cases q
      | some ds => rw [a] at q; cases q; exact ⟨ds, rfl⟩
    have tupD : ∀ {ts : List T} {e : PyData}, toD (.tup ts) = some e → ∃ es, e = .tuple es := fun {ts e} q => by
      unfold toD at q
      cases a : toDs ts with
      | none => rw [a] at q; cases q
      | some ds => rw [a] at q; cases q; exact ⟨ds, rfl⟩
    have strD : ∀ {z : Str} {e : PyData}, toD (.str z) = some e → e = .str z := fun {z e} q => by
      unfold toD at q
      split at q
      · cases q; rfl
      · cases q
    obtain ⟨dx, ex, _⟩ := dat_toD _ _ (cln_dat _ _ h1)
    cases x with
    | non => cases y with
      | non => exact ⟨fun _ => rfl, fun _ => rfl⟩
      | int j => exact no rfl (fun q => nomatch q)
      | str z => exact no (kind rfl fun e q => by rw [strD q]; rfl) (fun q => nomatch q)
      | tup ts => exact no (kind rfl fun e q => by obtain ⟨es, rfl⟩ := tupD q; rfl) (fun q => nomatch q)
      | lst ts => exact no (kind rfl fun e q => by obtain ⟨es, rfl⟩ := lstD q; rfl) (fun q => nomatch q)
      | bl _ => cases h2
      | ins _ _ => cases h2
      | ref _ => cases h2
      | ty _ => cases h2
      | scr _ => cases h2
      | exc _ _ _ _ => cases h2
      | xob _ _ => cases h2
    | int i => cases y with
      | non => exact no rfl (fun q => nomatch q)
      | int j => rw [eqT_int]; exact ⟨fun q => (by rw [of_decide_eq_true q]), fun q => (by cases q; exact decide_eq_true rfl)⟩
      | str z => exact no (kind rfl fun e q => by rw [strD q]; rfl) (fun q => nomatch q)
      | tup ts => exact no (kind rfl fun e q => by obtain ⟨es, rfl⟩ := tupD q; rfl) (fun q => nomatch q)
      | lst ts => exact no (kind rfl fun e q => by obtain ⟨es, rfl⟩ := lstD q; rfl) (fun q => nomatch q)
      | bl _ => cases h2
      | ins _ _ => cases h2
      | ref _ => cases h2
      | ty _ => cases h2
      | scr _ => cases h2
      | exc _ _ _ _ => cases h2
      | xob _ _ => cases h2
    | str w =>
      rw [strD ex] at ex
      cases y with
      | non => exact no (kind ex fun e q => by cases q; rfl) (fun q => nomatch q)
      | int j => exact no (kind ex fun e q => by cases q; rfl) (fun q => nomatch q)
      | str z => rw [eqT_str h1 h2]; exact ⟨fun q => (by rw [of_decide_eq_true q]), fun q => (by cases q; exact decide_eq_true rfl)⟩
      | tup ts => exact no (kind ex fun e q => by obtain ⟨es, rfl⟩ := tupD q; rfl) (fun q => nomatch q)
      | lst ts => exact no (kind ex fun e q => by obtain ⟨es, rfl⟩ := lstD q; rfl) (fun q => nomatch q)
      | bl _ => cases h2
      | ins _ _ => cases h2
      | ref _ => cases h2
      | ty _ => cases h2
      | scr _ => cases h2
      | exc _ _ _ _ => cases h2
      | xob _ _ => cases h2
    | tup us =>
      obtain ⟨ds, rfl⟩ := tupD ex
      cases y with
      | non => exact no (kind ex fun e q => by cases q; rfl) (fun q => nomatch q)
      | int j => exact no (kind ex fun e q => by cases q; rfl) (fun q => nomatch q)
      | str z => exact no (kind ex fun e q => by rw [strD q]; rfl) (fun q => nomatch q)
      | tup ts =>
        rw [eqT_tup (cln_dat _ _ h1) (cln_dat _ _ h2), eqTs_iff n us ts h1 h2]
        exact ⟨fun q => by rw [q], fun q => by cases q; rfl⟩
      | lst ts => exact no (kind ex fun e q => by obtain ⟨es, rfl⟩ := lstD q; rfl) (fun q => nomatch q)
      | bl _ => cases h2
      | ins _ _ => cases h2
      | ref _ => cases h2
      | ty _ => cases h2
      | scr _ => cases h2
      | exc _ _ _ _ => cases h2
      | xob _ _ => cases h2
    | lst us =>
      obtain ⟨ds, rfl⟩ := lstD ex
      cases y with
      | non => exact no (kind ex fun e q => by cases q; rfl) (fun q => nomatch q)
      | int j => exact no (kind ex fun e q => by cases q; rfl) (fun q => nomatch q)
      | str z => exact no (kind ex fun e q => by rw [strD q]; rfl) (fun q => nomatch q)
      | tup ts => exact no (kind ex fun e q => by obtain ⟨es, rfl⟩ := tupD q; rfl) (fun q => nomatch q)
      | lst ts =>
        rw [eqT_lst (cln_dat _ _ h1) (cln_dat _ _ h2), eqTs_iff n us ts h1 h2]
        exact ⟨fun q => by rw [q], fun q => by cases q; rfl⟩
      | bl _ => cases h2
      | ins _ _ => cases h2
      | ref _ => cases h2
      | ty _ => cases h2
      | scr _ => cases h2
      | exc _ _ _ _ => cases h2
      | xob _ _ => cases h2
    | bl _ => cases h1
    | ins _ _ => cases h1
    | ref _ => cases h1
    | ty _ => cases h1
    | scr _ => cases h1
    | exc _ _ _ _ => cases h1
    | xob _ _ => cases h1
theorem eqTs_iff : ∀ (n : Nat) (xs ys : List T), xs.all (cln n) = true → ys.all (cln n) = true → (eqTs xs ys = true ↔ xs = ys)
  | n, [], [], _, _ => ⟨fun _ => rfl, fun _ => rfl⟩
  | n, [], y :: ys, _, _ => ⟨fun q => (Bool.noConfusion q), fun q => nomatch q⟩
  | n, x :: xs, [], _, _ => ⟨fun q => (Bool.noConfusion q), fun q => nomatch q⟩
  | n, x :: xs, y :: ys, h1, h2 => by
    rw [List.all_cons, Bool.and_eq_true] at h1 h2
    show (eqT x y && eqTs xs ys) = true ↔ _
    rw [Bool.and_eq_true, eqT_iff n x y h1.1 h2.1, eqTs_iff n xs ys h1.2 h2.2]
    exact ⟨fun q => by rw [q.1, q.2], fun q => by cases q; exact ⟨rfl, rfl⟩⟩
end
theorem lc_pure {fl : Bool} {ts : List T} {stay : Hq → Prop} {g : T → Sl → Option Sl} {s : Sl} {tt : TM} {el : EM} {h : Hq} {Q : TK} (f : T → Option T) (hst : stay h) (hl : ts.length ≤ lim)
    (hs : ∀ t ∈ ts, ∀ R : Option T → Hq → Prop, R (f t) h → match g t s with
      | some s2 => tt s2 h (fun b h3 => if b = true then el s2 h3 (fun y h4 => R (some y) h4) E0 else R none h3) E0
      | none => False) (hQ : mk fl (ts.filterMap f) h Q) :
    ∃ I : Nat → List T → Hq → Prop, I 0 [] h ∧ ∀ i acc h, i ≤ ts.length → I i acc h → stay h ∧ match ts[i]? with
      | none => mk fl acc h Q
      | some t => acc.length < lim ∧ match g t s with
        | some s2 => tt s2 h (fun b h3 => if b = true then el s2 h3 (fun y h4 => I (i + 1) (acc ++ [y]) h4) E0 else I (i + 1) acc h3) E0
        | none => False := by
  refine ⟨fun i acc h' => acc = (ts.take i).filterMap f ∧ h' = h, ⟨by simp, rfl⟩, ?_⟩
  rintro i acc h' hi ⟨rfl, rfl⟩
  refine ⟨hst, ?_⟩
  cases e : ts[i]? with
  | none =>
    have : ts.take i = ts := List.take_of_length_le (List.getElem?_eq_none_iff.mp e)
    show mk fl ((ts.take i).filterMap f) h' Q
    rw [this]
    exact hQ
  | some t =>
    have hm : t ∈ ts := List.mem_of_getElem? e
    have hi' : i < ts.length := (List.getElem?_eq_some_iff.mp e).1
    refine ⟨?_, ?_⟩
    · have h1 := List.length_filterMap_le f (ts.take i)
      have h2 : (ts.take i).length ≤ i := by rw [List.length_take]; omega
      omega
    · have q := hs t hm (fun o h4 => h4 = h' ∧ o = f t) ⟨rfl, rfl⟩
      have tk : (ts.take (i + 1)).filterMap f = (ts.take i).filterMap f ++ (f t).toList := by
        rw [List.take_add_one, e, List.filterMap_append]
        cases z : f t <;> simp [z]
      have q2 := hs t hm (fun o h4 => (ts.take i).filterMap f ++ o.toList = (ts.take (i + 1)).filterMap f ∧ h4 = h') ⟨tk.symm, rfl⟩
      dsimp only at q2 ⊢
      simpa using q2
theorem lcK_map {fl : Bool} {ts : List T} {stay : Hq → Prop} {g : T → Sl → Option Sl} {el : EM} {s : Sl} {h : Hq} {Q : TK} (f : T → T) (hst : stay h) (hl : ts.length ≤ 1000000)
    (hs : ∀ t ∈ ts, ∀ R : TK, R (f t) h → match g t s with
      | some s2 => el s2 h R E0
      | none => False) (hQ : mk fl (ts.map f) h Q) : LcK fl ts stay g tYes el s h Q := by
  refine lc_pure (fun t => some (f t)) hst hl (fun t ht R r => ?_) (by rw [List.filterMap_eq_map']; exact hQ)
  have q := hs t ht (fun y h4 => R (some y) h4) r
  split at q
  · exact iteT (B := R none h) q
  · exact q.elim
theorem put_none {h : Hq} {a b : Addr} {x : O} (e : put h a x b = none) : b ≠ a ∧ h b = none := by
  by_cases c : b = a
  · subst c; rw [put_same] at e; cases e
  · exact ⟨c, by rw [put_ne c] at e; exact e⟩
theorem enum_at {ts : List T} {i : Nat} {t : T} (e : (enumT ts)[i]? = some t) : ∃ x, ts[i]? = some x ∧ t = .tup [.int i, x] := by
  unfold enumT at e
  rw [List.getElem?_mapIdx] at e
  cases z : ts[i]? with
  | none => rw [z] at e; cases e
  | some x => rw [z] at e; cases e; exact ⟨x, rfl, rfl⟩
theorem enum_len {ts : List T} : (enumT ts).length = ts.length := by unfold enumT; simp
theorem rng_at {lo : Int} {n i : Nat} {t : T} (e : (rng lo n)[i]? = some t) : i < n ∧ t = .int (lo + i) := by
  unfold rng at e
  rw [List.getElem?_map] at e
  by_cases c : i < n
  · rw [List.getElem?_range c] at e; cases e; exact ⟨c, rfl⟩
  · rw [List.getElem?_eq_none_iff.mpr (by simp; omega)] at e; cases e
theorem rng_len {lo : Int} {n : Nat} : (rng lo n).length = n := by unfold rng; simp
theorem filterMap_ite {α β : Type} (p : α → Bool) (f : α → β) : ∀ l : List α, (l.filterMap fun k => if p k = true then some (f k) else none) = (l.filter p).map f
  | [] => rfl
  | x :: l => by
    have ih := filterMap_ite p f l
    cases c : p x with
    | true => rw [List.filterMap_cons_some (b := f x) (by simp [c]), List.filter_cons_of_pos (by simp [c]), ih]; rfl
    | false => rw [List.filterMap_cons_none (by simp [c]), List.filter_cons_of_neg (by simp [c]), ih]
theorem forK_go {ts : List T} {stay : Hq → Prop} {g : GM} {b : SM} {D : En} {s : Sl} {h : Hq} (I : Nat → SK) (h0 : I 0 s h)
    (hend : ∀ s h, I ts.length s h → stay h ∧ D.nx s h) (hstep : ∀ i t s h, ts[i]? = some t → I i s h → stay h ∧ g t s h (fun s2 h2 => b { D with nx := I (i + 1), ct := I (i + 1), bk := D.nx } s2 h2) D.ex) : ForK ts stay g b D s h := by
  refine ⟨I, h0, fun i s h hi q => ?_⟩
  cases e : ts[i]? with
  | none =>
    have : i = ts.length := Nat.le_antisymm hi (List.getElem?_eq_none_iff.mp e)
    subst this
    exact hend s h q
  | some t => exact hstep i t s h e q
theorem lcK_fA {α : Type} {fl : Bool} {enc : α → T} {xs : List α} {stay : Hq → Prop} {g : T → Sl → Option Sl} {tt : TM} {el : EM} {s : Sl} {h : Hq} {Q : TK} (f : α → Option T) (hst : stay h) (hl : xs.length ≤ 1000000)
    (hs : ∀ x ∈ xs, ∀ R : Option T → Hq → Prop, R (f x) h → match g (enc x) s with
      | some s2 => tt s2 h (fun b h3 => if b = true then el s2 h3 (fun y h4 => R (some y) h4) E0 else R none h3) E0
      | none => False) (hQ : mk fl (xs.filterMap f) h Q) : LcK fl (xs.map enc) stay g tt el s h Q := by
  refine ⟨fun i acc h' => acc = (xs.take i).filterMap f ∧ h' = h, ⟨by simp, rfl⟩, ?_⟩
  rintro i acc h' hi ⟨rfl, rfl⟩
  refine ⟨hst, ?_⟩
  cases e : xs[i]? with
  | none =>
    have : xs.take i = xs := List.take_of_length_le (List.getElem?_eq_none_iff.mp e)
    rw [List.getElem?_map, e, this]
    exact hQ
  | some x =>
    have hm : x ∈ xs := List.mem_of_getElem? e
    have hi' : i < xs.length := (List.getElem?_eq_some_iff.mp e).1
    rw [List.getElem?_map, e]
    refine ⟨?_, ?_⟩
    · have h1 := List.length_filterMap_le f (xs.take i)
      have h2 : (xs.take i).length ≤ i := by rw [List.length_take]; omega
      show _ < 1000000
      omega
    · have tk : (xs.take (i + 1)).filterMap f = (xs.take i).filterMap f ++ (f x).toList := by
        rw [List.take_add_one, e, List.filterMap_append]
        cases z : f x <;> simp [z]
      have q2 := hs x hm (fun o h4 => (xs.take i).filterMap f ++ o.toList = (xs.take (i + 1)).filterMap f ∧ h4 = h') ⟨tk.symm, rfl⟩
      simp only [Option.toList_some, Option.toList_none, List.append_nil] at q2
      exact q2
theorem lcK_mA {α : Type} {fl : Bool} {enc : α → T} {xs : List α} {stay : Hq → Prop} {g : T → Sl → Option Sl} {el : EM} {s : Sl} {h : Hq} {Q : TK} (f : α → T) (hst : stay h) (hl : xs.length ≤ 1000000)
    (hs : ∀ x ∈ xs, ∀ R : TK, R (f x) h → match g (enc x) s with
      | some s2 => el s2 h R E0
      | none => False) (hQ : mk fl (xs.map f) h Q) : LcK fl (xs.map enc) stay g tYes el s h Q := by
  refine lcK_fA (fun t => some (f t)) hst hl (fun t ht R r => ?_) (by rw [List.filterMap_eq_map']; exact hQ)
  have q := hs t ht (fun y h4 => R (some y) h4) r
  split at q
  · exact iteT (B := R none h) q
  · exact q.elim
end TL

namespace TL
open PySem L2

section
variable {K : PySem.W.Frag} {S : Fz} {H : Hp}
theorem RepF.look : ∀ {fs : List (Str × V)} {gs : List (Str × T)} {f : Str} {t : T}, RepF K S H fs gs → gs.lookup f = some t → ∃ v, fs.lookup f = some v ∧ Rep K S H v t
  | _, _, _, _, .nil, e => by cases e
  | _, _, f, t, .cons (f := g) (v := v) (vs := vs) (t := u) (ts := ts) r q, e => by
    rw [List.lookup_cons] at e ⊢
    cases z : f == g with
    | true => rw [z] at e; cases e; exact ⟨v, rfl, r⟩
    | false => rw [z] at e; exact RepF.look q e
theorem RepS.unset {σ : L2.St} {s : Sl} (r : RepS K S H σ s) (i : Nat) : RepS K S H (σ.set i none) (s.set i none) := ⟨by simp [r.len], fun j u e => by
  by_cases c : i = j
  · subst c
    have hl : i < s.length := by
      have := (List.getElem?_eq_some_iff.mp e).1
      simpa using this
    rw [List.getElem?_set_self hl] at e
    cases e
  · rw [List.getElem?_set_ne c] at e
    obtain ⟨w, h1, h2⟩ := r.at_ j u e
    exact ⟨w, by rw [List.getElem?_set_ne c]; exact h1, h2⟩⟩
theorem RepX.rep {cls : Value} {d : Option Addr} {x : Ex} (r : RepX K S H cls d x) (a : Addr) : Rep K S H (.ref a) (.exc a x.cls d x.fs) := by
  obtain ⟨_, ⟨e1, e2⟩ | ⟨dd, fs, e1, e2, e3, e4⟩⟩ := r
  · rw [e1, e2]; exact .exc0
  · rw [e1]; exact .exc e2 e3 e4
end

def spInit (C : Addr) (f : Str) : Sp := fun vs H Q _ => ∃ a y, vs = [.ref a, y] ∧ H a = some (exo a C none) ∧ ∀ dx, H dx = none → dx ≠ a → Q .non (upd (upd H dx (exd dx [(f, y)])) a (exo a C (some dx)))
theorem init_ok {P : Program} {w : World} {K : PySem.W.Frag} {mg : Str → Option Value} {base : Heap} {qual : Str} {st : Stmt} {fI C : Addr} {fd : FuncData} {y f : Str} {p1 p2 p3 p4 : Pos} (F : Fun K "__init__" qual st fI fd) (sc : FnScope ["self", y] ["self", y] (defScope st)) (T : OexC K C) (hno : PySem.W.findIn K (.ref C) f = some none)
    (hb : defBody st = [.Assign [.Attribute (.Name "self" p1) f p2] (.Name y p3) p4])
    (h0 : Vis (defScope st) "self") (h1 : Vis (defScope st) y) (hd : (y == ("__debug__" : Str)) = false) (hcd : (y == ("__classdict__" : Str)) = false)
    (hs : ∀ env, env.scope = defScope st → swapsWith (.Name y p3) (some (.Attribute (.Name "self" p1) f p2)) p4.line env = pure false) : FnOk P w K mg base (L2.CX P w) 1 fI fd ["self", y] (spInit C f) := by
  refine F.okX (k := 0) sc (fun vs H Q E ⟨a, v, e, _⟩ => by rw [e]; rfl) fun cdv A outer s H vs Q E hr ⟨a, v, e, ha, q⟩ => ⟨_, by rw [hb]; exact pss_one (ps_ost (pe_var (i := 0) rfl h0) (pe_var (i := 1) rfl h1 hd hcd) (hs _ rfl)), ?_⟩
  subst e
  refine ⟨v, rfl, .ref a, rfl, a, C, rfl, T, hno, .inl ⟨ha, fun dx n ne => q dx n ne⟩⟩

def sRaise (C : Addr) (f : Str) (a : AM) : SM := fun D s h => a s h (fun ts h1 => match ts with
  | [t] => D.ex ⟨.ref C, [(f, t)]⟩ s h1
  | _ => False) D.ex
section
variable {X : Cx} {W : WX}
theorem noPass {P : Program} {w : World} : Passes (L2.CX P w) X (fun _ _ _ => False) := fun pins σ H s e s' I c => by
  obtain ⟨_, _, _, _, _, _, _, _, _, _, _, _, z⟩ := c
  exact z.elim
theorem noPassN {P : Program} {w : World} : Passes (L2N.CX P w) X (fun _ _ _ => False) := fun pins σ H s e s' I c => by
  obtain ⟨_, _, _, _, _, _, _, _, _, _, _, _, z⟩ := c
  exact z.elim
theorem js_raise {x f y : Str} {C fI : Addr} {fd : FuncData} {e : Expr} {es : List Expr} {a : AM} {p pos pos' : Pos} (T : OexC X.K C) (iC : PySem.W.findIn X.K (.ref C) "__init__" = some (some (.ref fI))) (tI : PySem.W.typeIn X.K (.ref fI) = some (.type "function"))
    (F1 : FnOk X.prog X.w X.K X.mg X.base (L2.CX X.prog X.w) 1 fI fd ["self", y] (spInit C f)) (hb : Binds X.K fd ["self", y] []) (hr : Room 2 X.A) (hc : X.calm = true) (tk : L2N.Takes X W) (hg : Gl X x) (hm : X.mg x = some (.ref C)) (ha : JA X W (e :: es) a)
    (hdb : (x == ("__debug__" : Str)) = false := by decide) (he : starEach (e :: es) X.env = (false, eval e X.env) :: starEach es X.env := by rfl) (hpl : (backTo pos (starEach es X.env)).any (·.1) = false := by rfl) :
    JS X W (.Raise (some (.Call (.Name x p) (e :: es) [] pos)) none pos') (sRaise C f a) := PS.wk (L2N.ps_raise hc tk (pmk_oexN T iC tI F1 hr hb .nil noPass hg hm ha hdb he hpl)) fun D' σ H ⟨S, h, s, D, m, rs, lk, hm⟩ => by
  refine ⟨S, h, s, _, D.ex, m, rs, lk.ex, hm, fun S1 H1 h1 vs ts f1 m1 r1 q1 => ?_⟩
  split at q1
  · cases r1 with
    | @cons v _ t _ r rn =>
      cases rn
      refine ⟨by simp, fun a na => ⟨a, v, rfl, upd_same, fun dx ndx ne => ⟨rfl, dx, [(f, v)], upd_same, ?_, ?_, ?_⟩⟩⟩
      · rw [upd_ne ne, upd_same]
      · rw [upd_ne ne] at ndx; exact ndx
      · rw [upd_ne ne] at ndx
        have e1 : upd (L2.del (upd (upd (upd H1 a (exo a C none)) dx (exd dx [(f, v)])) a (exo a C (some dx))) a) dx (.xd [(f, v)]) = upd H1 dx (.xd [(f, v)]) := by
          funext b
          by_cases c : b = dx
          · rw [c, upd_same, upd_same]
          · rw [upd_ne c, upd_ne c]
            by_cases c2 : b = a
            · rw [c2, L2.del_same, na]
            · rw [L2.del_ne c2, upd_ne c2, upd_ne c, upd_ne c2]
        rw [e1]
        obtain ⟨m2, f2⟩ := m1.frozen (u := .xd [(f, v)]) ndx
        exact lk.ex _ _ h1 σ s ⟨.ref C, [(f, _)]⟩ _ _ (f1.trans f2) m2 (rs.fut (f1.trans f2)) ⟨rfl, .inr ⟨dx, [(f, v)], rfl, .inr rfl, upd_same, .cons (r.fut f2) .nil⟩⟩ q1
  · exact q1.elim

def exTry (K : PySem.W.Frag) (c : Value) (i : Nat) (ms : Addr → Value → Option Addr → SM) (D : En) : EX := fun x s1 h1 => ∃ ok, PySem.W.exmOne K x.cls c = some ok ∧ (ok = true → ∀ a d, h1 a = none → ms a x.cls d { nx := fun s' h' => D.nx (s'.set i none) h', rt := D.rt, bk := fun s' h' => D.bk (s'.set i none) h', ct := fun s' h' => D.ct (s'.set i none) h' } (s1.set i (some (.exc a x.cls d x.fs))) h1) ∧ (ok = false → D.ex x s1 h1)
def sTry (K : PySem.W.Frag) (c : Value) (i : Nat) (b : SM) (ms : Addr → Value → Option Addr → SM) : SM := fun D s h => b { nx := D.nx, rt := D.rt, bk := D.bk, ct := D.ct, ex := exTry K c i ms D } s h
theorem js_try {x n : Str} {c : Value} {i : Nat} {body suite : List Stmt} {b₀ : Stmt} {np pos pos' : Pos} {mb : SM} {ms : Addr → Value → Option Addr → SM} (hs : X.stack = X.env :: X.outer) (hf : X.env.frame = some X.env.locals) (hN : X.N.Nodup) (hi : X.N[i]? = some n) (hln : X.env.kindOf n = some .local) (hc : Names X x c) (tk : L2N.Takes X W)
    (hb : ∀ (W : WX) (pn : List (Addr × Obj)) (xe : Value → Shared → Prop), L2N.Takes (X.tr pn xe) W → PassesOwn (model X.prog X.w) X.A X.env xe → JSs (X.tr pn xe) W body mb)
    (hsu : ∀ (a : Addr) (oe : Obj) (cls : Value) (d : Option Addr) (pn : List (Addr × Obj)), Zc cls d oe → (∃ vs, oe.data = .fields vs) → JSs (X.suite a ((a, oe) :: pn)) W0 (b₀ :: suite) (ms a cls d)) :
    JS X W (.Try body [.ExceptHandler (some (.Name x np)) (some n) (b₀ :: suite) pos'] [] [] pos) (sTry X.K c i mb ms) := PS.wk (L2N.ps_try_as (tb := fun W => liftS X.K W mb) (ts := fun a cls d => liftS X.K W0 (ms a cls d)) hs hf hN hi hln hc tk hb fun a oe cls d pn hz hv => hsu a oe cls d pn hz.zc hv) fun D' σ H ⟨S, h, s, D, m, rs, lk, hm⟩ => by
  refine ⟨S, h, s, { nx := D.nx, rt := D.rt, bk := D.bk, ct := D.ct, ex := exTry X.K c i ms D }, m, rs, ⟨lk.nx, lk.rt, lk.bk, lk.ct, fun S1 H1 h1 σ1 s1 x cls d f1 m1 r1 rx ⟨ok, e, yes, no⟩ => ?_⟩, hm⟩
  obtain ⟨ec, _⟩ := id rx
  refine ⟨ok, by rw [ec]; exact e, fun eo a na => ?_, fun eo => lk.ex S1 H1 h1 σ1 s1 x cls d f1 m1 r1 rx (no eo)⟩
  have q := yes eo a d (m1.free na)
  rw [ec]
  refine ⟨S1, h1, _, _, m1, r1.set (rx.rep a) i, ?_, q⟩
  exact { nx := fun S2 H2 h2 σ2 s2 f2 m2 r2 q2 => lk.nx S2 H2 h2 _ _ (f1.trans f2) m2 (r2.unset i) q2, rt := fun S2 H2 h2 v u f2 m2 r2 q2 => lk.rt S2 H2 h2 _ _ (f1.trans f2) m2 r2 q2, bk := fun S2 H2 h2 σ2 s2 f2 m2 r2 q2 => lk.bk S2 H2 h2 _ _ (f1.trans f2) m2 (r2.unset i) q2, ct := fun S2 H2 h2 σ2 s2 f2 m2 r2 q2 => lk.ct S2 H2 h2 _ _ (f1.trans f2) m2 (r2.unset i) q2, ex := fun _ _ _ _ _ _ _ _ _ _ _ _ z => z.elim }

variable {a : Addr} {oe : Obj} {cls : Value} {d : Option Addr} {pn : List (Addr × Obj)}
def eXf (K : PySem.W.Frag) (a : Addr) (cls : Value) (d : Option Addr) (f : Str) (m : EM) : EM := fun s h Q E => ∃ C, XfC K C ∧ PySem.W.findIn K (.ref C) f = some none ∧ cls = .ref C ∧ m s h (fun x h1 => match x with
  | .exc a' _ d' gs => a' = a ∧ d' = d ∧ match gs.lookup f with
    | some t => Q t h1
    | none => False
  | _ => False) E
theorem j_xf {e : Expr} {m : EM} {pos : Pos} {f : Str} (hz : Zc cls d oe) (hf : ∃ vs, oe.data = .fields vs) (he : JE (X.suite a ((a, oe) :: pn)) W e m) (hb : attributeBase e f X.env (eval e X.env) = eval e X.env := by rfl) :
    JE (X.suite a ((a, oe) :: pn)) W (.Attribute e f pos) (eXf X.K a cls d f m) := ⟨fun pins s σ H Q' I ⟨S, h, s', Q, E, mm, rs, lk, ⟨C, hX, hno, hC, hm⟩, pk⟩ => (pe_xf hX hno hz hf he hb).run pins s σ H Q' I
  ⟨S, h, s', _, E, mm, rs, lk, hm, fun S1 H1 h1 v x f1 m1 r1 q1 => by
    cases r1 with
    | exc s1 e1 rf =>
      obtain ⟨q1, q2, q3⟩ := q1
      subst q1
      split at q3
      · rename_i t et
        obtain ⟨v, ev, rv⟩ := rf.look et
        exact ⟨rfl, hC, _, _, v, q2.symm, e1, ev, pk S1 H1 h1 _ _ f1 m1 rv q3⟩
      · exact q3.elim
    | exc0 =>
      obtain ⟨q1, q2, q3⟩ := q1
      exact q3.elim
    | _ => exact q1.elim⟩⟩
def rIs2 (K : PySem.W.Frag) (a : Addr) (cls : Value) (d : Option Addr) : List V → Hp → VK → Prop := fun xs H Q => ∃ (c D : Addr) (b : Bool), xs = [.ref a, .ref c] ∧ cls = .ref D ∧ ExcC K D ∧ PySem.W.kitOne K (.ref D) (.ref c) = some b ∧ (d = none ∨ ∃ dd fs, d = some dd ∧ H dd = some (.xd fs)) ∧ Q (.bl b) H
theorem call_is2 (hz : Zc cls d oe) (hf : ∃ vs, oe.data = .fields vs) : CallR (X.suite a ((a, oe) :: pn)) (.builtin "isinstance") (rIs2 X.K a cls d) := by
  intro pins s σ H xs us Q I r h
  obtain ⟨c, D, b, rfl, rfl, C, e, hd, q⟩ := h
  cases r with
  | cons rx rr =>
    cases rr with
    | cons rt rr =>
      cases rr
      cases rx
      cases rt
      obtain ⟨hget, _⟩ := I.pin (a, oe) (List.mem_append.mpr (.inl List.mem_cons_self))
      obtain ⟨vs, hv⟩ := hf
      have J : ∃ od, PySem.W.InstAt s.heap a oe D od := by
        obtain ⟨oc, od, oda, osl⟩ := oe
        obtain ⟨h1, h2⟩ := hz
        dsimp only at h1 h2 hv
        subst h1 h2 hv
        rcases hd with rfl | ⟨dd, fs, rfl, e2⟩
        · exact ⟨none, hget, rfl, rfl, trivial⟩
        · have hx : ObjOk X.prog X.w H s.heap dd (.xd fs) := I.hok dd _ e2
          obtain ⟨mA, hns, hr⟩ := hx
          obtain ⟨od, ho, hl⟩ := lookIn_ns hns
          exact ⟨some od, hget, rfl, rfl, ho⟩
      obtain ⟨od, J⟩ := J
      have hcl : (PySem.W.clsIn X.K D).isSome = true := by
        obtain ⟨cd, hc, _⟩ := PySem.W.any_some C.hd
        rw [hc]; rfl
      exact PySem.W.kia_one (PySem.W.kitx_exc hcl C.hg C.hk C.hs C.ha C.hn C.ht C.hm) I.kIn J e (fun z => nomatch z) fun tk => ⟨.bl b, H, I.kept (t' := tk) fun _ _ z => z, rfl, q⟩
def oIsE (K : PySem.W.Frag) (a : Addr) (cls : Value) (d : Option Addr) : RLT := fun xs h Q => match xs with
  | [.exc a' _ d' _, .ref c] => a' = a ∧ d' = d ∧ ∃ D b, cls = .ref D ∧ ExcC K D ∧ PySem.W.kitOne K (.ref D) (.ref c) = some b ∧ Q (.bl b) h
  | _ => False
theorem c_isE {K : PySem.W.Frag} : CP K (rIs2 K a cls d) (oIsE K a cls d) := fun S H h vs xs Q Q' m r q pk => by
  unfold oIsE at q
  split at q
  · obtain ⟨rfl, rfl, D, b, hC, C, e, q⟩ := q
    cases r with
    | cons r1 r =>
      cases r with
      | cons r2 r =>
        cases r
        cases r2
        cases r1 with
        | exc s1 e1 _ => exact ⟨_, D, b, rfl, hC, C, e, .inr ⟨_, _, rfl, e1⟩, pk S H h _ _ Fut.refl m (.bl b) q⟩
        | exc0 => exact ⟨_, D, b, rfl, hC, C, e, .inl rfl, pk S H h _ _ Fut.refl m (.bl b) q⟩
  · exact q.elim
theorem names_own {x : Str} {c : Addr} (hg : Gl X x) (hm : X.mg x = some (.ref c)) (hdb : (x == ("__debug__" : Str)) = false := by decide) : Names X x (.ref c) := ⟨hg, hdb, .inl hm⟩
end
end TL

namespace TL
open PySem L2
def putT (f : Str) (v : T) : List (Str × T) → List (Str × T)
  | [] => [(f, v)]
  | (g, x) :: r => if g = f then (g, v) :: r else (g, x) :: putT f v r
section
variable {K : PySem.W.Frag} {S : Fz} {H : Hp} {h : Hq}
theorem RepF.put {f : Str} {v : V} {t : T} (r : Rep K S H v t) : ∀ {fs : List (Str × V)} {gs : List (Str × T)}, RepF K S H fs gs → RepF K S H (putF f v fs) (putT f t gs)
  | _, _, .nil => .cons r .nil
  | _, _, .cons (f := g) q rest => by
    unfold putF putT
    split
    · exact .cons r rest
    · exact .cons q (RepF.put r rest)
theorem RepF.length : ∀ {fs : List (Str × V)} {gs : List (Str × T)}, RepF K S H fs gs → fs.length = gs.length
  | _, _, .nil => rfl
  | _, _, .cons _ q => congrArg (· + 1) (RepF.length q)
theorem RepF.nolook : ∀ {fs : List (Str × V)} {gs : List (Str × T)} {f : Str}, RepF K S H fs gs → gs.lookup f = none → fs.lookup f = none
  | _, _, _, .nil, e => rfl
  | _, _, f, .cons (f := g) r q, e => by
    rw [List.lookup_cons] at e ⊢
    cases z : f == g with
    | true => rw [z] at e; cases e
    | false => rw [z] at e; exact RepF.nolook q e
def insOf (h : Hq) (x : T) : Option (Addr × List (Str × T)) := match x with
  | .ins C gs => some (C, gs)
  | .ref p => match h p with
    | some (.ins C gs) => some (C, gs)
    | _ => none
  | _ => none
theorem insOf_ok (m : Sim K S H h) {v : V} {x : T} {C : Addr} {gs : List (Str × T)} (r : Rep K S H v x) (e : insOf h x = some (C, gs)) : ∃ a dx fs, v = .ref a ∧ H a = some (.ins C dx fs) ∧ RepF K S H fs gs := by
  cases r with
  | ins s hh q => cases e; exact ⟨_, _, _, rfl, hh, q⟩
  | ref a =>
    simp only [insOf] at e
    cases z : h a with
    | none => rw [z] at e; cases e
    | some o =>
      rw [z] at e
      cases o with
      | ins C' gs' =>
        cases e
        obtain ⟨u, e1, dx, fs, e2, r2⟩ := m.ob a _ z
        subst e2
        exact ⟨a, dx, fs, rfl, e1, r2⟩
      | lst _ => cases e
      | pool => cases e
      | dK _ => cases e
      | dT _ => cases e
      | tab _ => cases e
      | dL _ _ => cases e
  | _ => cases e
end

def eFld (C : Addr) (f : Str) (m : EM) : EM := fun s h Q E => m s h (fun x h1 => match insOf h1 x with
  | some (C', gs) => C' = C ∧ match gs.lookup f with
    | some t => Q t h1
    | none => False
  | none => False) E
section
variable {X : Cx} {W : WX} {C : Addr}
theorem j_fld {e : Expr} {m : EM} {f : Str} {pos : Pos} (c : Cls X.K C) (n : NoAttr X.K C f) (he : JE X W e m) (hb : attributeBase e f X.env (eval e X.env) = eval e X.env := by rfl) : JE X W (.Attribute e f pos) (eFld C f m) := PE.wk (pe_fld he hb) fun σ H Q' ⟨S, h, s, Q, E, mm, rs, lk, hm, pk⟩ =>
  ⟨S, h, s, _, E, mm, rs, lk, hm, fun S1 H1 h1 v x f1 m1 r1 q1 => by
    split at q1
    · rename_i C' gs e
      obtain ⟨rfl, q1⟩ := q1
      split at q1
      · rename_i t et
        obtain ⟨a, dx, fs, rfl, ea, rf⟩ := insOf_ok m1 r1 e
        obtain ⟨y, ey, ry⟩ := rf.look et
        exact ⟨a, C', dx, fs, y, rfl, ea, c, n, ey, pk S1 H1 h1 _ _ f1 m1 ry q1⟩
      · exact q1.elim
    · exact q1.elim⟩
def sFldT (C : Addr) (f : Str) (mo mv : EM) : SM := fun D s h => mv s h (fun y h1 => mo s h1 (fun x h2 => match x with
  | .ref p => match h2 p with
    | some (.ins C' gs) => C' = C ∧ gs.length < 1000 ∧ D.nx s (put h2 p (.ins C (putT f y gs)))
    | _ => False
  | _ => False) D.ex) D.ex
theorem js_fld {o e : Expr} {mo mv : EM} {f : Str} {pos pos' : Pos} (c : Cls X.K C) (n : NoAttr X.K C f) (ho : JE X W o mo) (hv : JE X W e mv) (hs : swapsWith e (some (.Attribute o f pos')) pos.line X.env = pure false := by rfl) : JS X W (.Assign [.Attribute o f pos'] e pos) (sFldT C f mo mv) := PS.wk (ps_fld ho hv hs) fun D' σ H ⟨S, h, s, D, m, rs, lk, hm⟩ =>
  ⟨S, h, s, _, D.ex, m, rs, lk.ex, hm, fun S1 H1 h1 v y f1 m1 r1 q1 => ⟨S1, h1, s, _, D.ex, m1, rs.fut f1, lk.ex.fut f1, q1, fun S2 H2 h2 w x f2 m2 r2 q2 => by
    split at q2
    · split at q2
      · rename_i p _ C' gs e
        obtain ⟨rfl, l, q2⟩ := q2
        cases r2
        obtain ⟨u, e1, dx, fs, e2, rf⟩ := m2.ob p _ e
        subst e2
        have f3 : Fut S2 H2 S2 (upd H2 p (.ins C' dx (putF f v fs))) := fut_upd (m2.nS' e)
        have f13 := (f1.trans f2).trans f3
        exact ⟨p, C', dx, fs, rfl, e1, c, n, by rw [rf.length]; exact l, lk.nx S2 _ _ σ s f13 (m2.write (o' := .ins C' (putT f y gs)) e ⟨dx, _, rfl, RepF.put (r1.fut f2) rf⟩) (rs.fut f13) q2⟩
      · exact q2.elim
    · exact q2.elim⟩⟩

def tMethW (C : Addr) (m : Str) (sp : Sp) (E : L2.St → XK) (ta : TE) (t : TA) : TE := fun σ H Q => ta σ H fun x H1 => ∃ a dx fs, x = .ref a ∧ H1 a = some (.ins C dx fs) ∧ fs.lookup m = none ∧ t σ H1 fun vs H2 => sp (x :: vs) H2 Q (E σ)
theorem pe_methW {CX : CXT} {k : Nat} {f : Addr} {fd : FuncData} {ps : List Str} {sp : Sp} {E : L2.St → XK} {m : Str} {o e : Expr} {es : List Expr} {ta : TE} {t : TA} {pos apos : Pos} {pl : Sem Bool} (he : PE X o ta) (c : Cls X.K C) (hm : Meth X.K C m f) (F : FnOk X.prog X.w X.K X.mg X.base CX k f fd ps sp) (hr : Room k X.A) (hb : Binds X.K fd ps []) (hx : ∀ σ, PassesAt CX X σ (E σ)) (ha : PA X (e :: es) t)
    (hst : starEach (e :: es) X.env = (false, eval e X.env) :: starEach es X.env) (hpl : (backTo pos (starEach es X.env)).any (·.1) = false)
    (ht : eval (.Call (.Attribute o m apos) (e :: es) [] pos) X.env = (do
      let ov ← eval o X.env
      standAt apos.atName
      let (f, first) ← holding [ov] (getMethod ov m pl)
      callWith pos f first (backTo pos (starEach (e :: es) X.env)) (backToKw pos (keywordEach [] X.env)))) :
    PE X (.Call (.Attribute o m apos) (e :: es) [] pos) (tMethW C m sp E ta t) := ⟨fun pins s σ H Q I h => by
  refine PySem.W.methodCall_KW (pl := pl) (thn (he.run pins s σ H _ I h) fun u s1 ⟨x, H1, I1, rx, a, dx, fs, ex, ea, l, q⟩ => ?_) ht
  subst ex
  obtain rfl : u = Value.ref a := rx
  refine getmeth_ok I1 ea c hm l (PySem.W.callWith_K (first := [.ref a]) (h₀ := X.base) I.ok.mod.kin hm.kp (thn (ha.run pos pins s1 σ H1 _ I1 q) fun us s2 ⟨vs, H2, I2, r, q2⟩ => ⟨I2.kIn, ?_⟩) hst hpl)
  exact run_fnS (us := .ref a :: us) (vs := .ref a :: vs) F hr hb (hx σ) I2 (.cons rfl r) q2⟩
def eMeth (C : Addr) (nm : Str) (n : Nat) (c : Con) (mo : EM) (ma : AM) : EM := fun s h Q E => mo s h (fun x h1 => match insOf h1 x with
  | some (C', gs) => C' = C ∧ gs.lookup nm = none ∧ ma s h1 (fun ts h2 => ts.length + 1 = n ∧ c (x :: ts) h2 Q fun y h3 => E y s h3) E
  | none => False) E
theorem lift_meth {K : PySem.W.Frag} {nm : Str} {n : Nat} {c : Con} {mo : EM} {ma : AM} : ∀ σ H Q, liftE K W (eMeth C nm n c mo ma) σ H Q → tMethW C nm (liftSp K n c) (WE W) (liftE K W mo) (liftA K W ma) σ H Q := fun σ H Q' ⟨S, h, s, Q, E, mm, rs, lk, hm, pk⟩ =>
  ⟨S, h, s, _, E, mm, rs, lk, hm, fun S1 H1 h1 v x f1 m1 r1 q1 => by
    split at q1
    · rename_i C' gs e
      obtain ⟨rfl, l, q1⟩ := q1
      obtain ⟨a, dx, fs, rfl, ea, rf⟩ := insOf_ok m1 r1 e
      exact ⟨a, dx, fs, rfl, ea, rf.nolook l, S1, h1, s, _, E, m1, rs.fut f1, lk.fut f1, q1, fun S2 H2 h2 vs ts f2 m2 r2 ⟨l2, q2⟩ => ⟨S2, h2, x :: ts, Q, _, m2, .cons (r1.fut f2) r2, l2, q2, pk.fut (f1.trans f2), fun S3 H3 h3 y cls d f3 m3 r3 q3 => lk S3 H3 h3 σ s y cls d ((f1.trans f2).trans f3) m3 (rs.fut ((f1.trans f2).trans f3)) r3 q3⟩⟩
    · exact q1.elim⟩
theorem j_meth {CX : CXT} {k n : Nat} {f : Addr} {fd : FuncData} {ps : List Str} {c : Con} {m : Str} {o e : Expr} {es : List Expr} {mo : EM} {ma : AM} {pos apos : Pos} {pl : Sem Bool} (cl : Cls X.K C) (hm : Meth X.K C m f) (F : FnOk X.prog X.w X.K X.mg X.base CX k f fd ps (liftSp X.K n c)) (hr : Room k X.A) (hb : Binds X.K fd ps []) (hx : ∀ σ, PassesAt CX X σ (WE W σ)) (he : JE X W o mo) (ha : JA X W (e :: es) ma)
    (hst : starEach (e :: es) X.env = (false, eval e X.env) :: starEach es X.env := by rfl) (hpl : (backTo pos (starEach es X.env)).any (·.1) = false := by rfl)
    (ht : eval (.Call (.Attribute o m apos) (e :: es) [] pos) X.env = (do
      let ov ← eval o X.env
      standAt apos.atName
      let (f, first) ← holding [ov] (getMethod ov m pl)
      callWith pos f first (backTo pos (starEach (e :: es) X.env)) (backToKw pos (keywordEach [] X.env))) := by rfl) :
    JE X W (.Call (.Attribute o m apos) (e :: es) [] pos) (eMeth C m n c mo ma) := PE.wk (pe_methW he cl hm F hr hb hx ha hst hpl ht) lift_meth
def eProp (C : Addr) (c : Con) (mo : EM) : EM := fun s h Q E => mo s h (fun x h1 => match insOf h1 x with
  | some (C', _) => C' = C ∧ c [x] h1 Q fun _ _ => False
  | none => False) E
theorem j_prop {P : Program} {w : World} {k : Nat} {p g : Addr} {fd : FuncData} {ps : List Str} {c : Con} {f : Str} {o : Expr} {mo : EM} {pos : Pos} (hP : X.prog = P) (hw : X.w = w) (cl : Cls X.K C) (hp : PropOf X.K C f p g) (F : FnOk X.prog X.w X.K X.mg X.base (L2N.CX P w) k g fd ps (liftSp X.K 1 c)) (hr : Room (k + 1) X.A) (hb : Binds X.K fd ps []) (he : JE X W o mo)
    (hab : attributeBase o f X.env (eval o X.env) = eval o X.env := by rfl) : JE X W (.Attribute o f pos) (eProp C c mo) := PE.wk (pe_prop (E := fun _ _ _ => False) he cl hp F hr hb .nil noPassN hab) fun σ H Q' ⟨S, h, s, Q, E, mm, rs, lk, hm, pk⟩ =>
  ⟨S, h, s, _, E, mm, rs, lk, hm, fun S1 H1 h1 v x f1 m1 r1 q1 => by
    split at q1
    · rename_i C' gs e
      obtain ⟨rfl, q1⟩ := q1
      obtain ⟨a, dx, fs, rfl, ea, rf⟩ := insOf_ok m1 r1 e
      exact ⟨a, dx, fs, rfl, ea, S1, h1, [x], Q, _, m1, .cons r1 .nil, rfl, q1, pk.fut f1, fun _ _ _ _ _ _ _ _ _ z => z.elim⟩
    · exact q1.elim⟩

def tMakeW (C : Addr) (n m : Nat) (sp : Sp) (E : L2.St → XK) (t tk : TA) : TE := fun σ H Q => t σ H fun vs H1 => tk σ H1 fun zs H2 => vs.length = n ∧ zs.length = m ∧ ∀ x dx, H2 x = none → H2 dx = none → dx ≠ x →
  sp (.ref x :: (vs ++ zs)) (upd (upd H2 dx (.own x)) x (.ins C dx [])) (fun v H3 => v = .non ∧ Q (.ref x) H3) (E σ)
def KBw (K : PySem.W.Frag) (fd : FuncData) (ps : List Str) (n : Nat) (ks : List Str) : Prop := ∀ (s : Shared) (us ws : List Value), K.In s.heap → us.length = n → ws.length = ks.length → BindsTo s fd ⟨us, ks.zip ws⟩ (ps.zip (us ++ ws))
theorem _root_.L2.Fun.kbw {K : PySem.W.Frag} {x qual : Str} {st : Stmt} {f : Addr} {fd : FuncData} {ps ks : List Str} {n : Nat} (F : Fun K x qual st f fd)
    (h : ∀ (kV doc pm : Value) (an : Option Addr) (cdv ct : Value) (us ws : List Value), us.length = n → ws.length = ks.length → bindArgs (PySem.W.fnOf x qual (defArgs st) (defBody st) (defScope st) .none kV doc pm an cdv ct) ⟨us, ks.zip ws⟩ = pure (ps.zip (us ++ ws))) : KBw K fd ps n ks := by
  obtain ⟨oc, od, kV, doc, pm, an, cdv, ct, osl, rfl, lk, hcd⟩ := F.ex
  exact fun s us ws _ l1 l2 => .of_eq (h kV doc pm an cdv ct us ws l1 l2)
theorem run_makeW {CX : CXT} {k n : Nat} {f : Addr} {fd : FuncData} {ps ks : List Str} {sp : Sp} {E : XK} {pins : List (Addr × Obj)} {σ : L2.St} {H : Hp} {s : Shared} {Q : VK} {us ws : List Value} {vs zs : List V} (M : Mk X.K C f) (F : FnOk X.prog X.w X.K X.mg X.base CX k f fd ps sp) (hr : Room (k + 1) X.A) (hb : KBw X.K fd ps (n + 1) ks) (hx : PassesAt CX X σ E)
    (I : Inv X pins σ H s) (r : Vals vs us) (rz : Vals zs ws) (l1 : vs.length = n) (l2 : zs.length = ks.length)
    (h : ∀ x dx, H x = none → H dx = none → dx ≠ x → sp (.ref x :: (vs ++ zs)) (upd (upd H dx (.own x)) x (.ins C dx [])) (fun v H2 => v = .non ∧ Q (.ref x) H2) E) :
    wpAny (model X.prog X.w) X.A (call (.ref C) us (ks.zip ws)) (EP X pins σ Q) X.xe s := by
  have hq := h (s.heap.objs.size + 1) s.heap.objs.size (I.hok.fresh (Nat.le_succ _)) (I.hok.fresh (Nat.le_refl _)) (Nat.ne_of_lt (Nat.lt_succ_self _))
  have I2 := Inv.made (C := C) I
  have r2 : Vals (V.ref (s.heap.objs.size + 1) :: (vs ++ zs)) (Value.ref (s.heap.objs.size + 1) :: (us ++ ws)) := .cons rfl (r.append rz)
  have n1 : (Value.ref (s.heap.objs.size + 1) :: us).length = n + 1 := by rw [List.length_cons, ← r.length, l1]
  have bd := hb _ (Value.ref (s.heap.objs.size + 1) :: us) ws I2.kIn n1 (rz.length.symm.trans l2)
  refine wpAny_call (make_map (f := f) I.kIn M.makes M.init (beq_iff_eq.mp M.fn) (codeAny_mono (F.run _ X.stack _ _ _ _ _ _ E (hr.make C us (ks.zip ws)) (I2.env0.make C us (ks.zip ws)) bd r2 hq) fun o s' hq' => ?_))
  rcases o with e | (u | _ | _ | _)
  · exact hx pins _ _ e s' I2 hq'
  all_goals first
    | exact False.elim hq'
    | (obtain ⟨v, H', I3, rv, ev, q3⟩ := I2.after hq'
       subst ev
       exact ⟨rv, ⟨V.ref (s.heap.objs.size + 1), H', I3, rfl, q3⟩⟩)
def JK (X : Cx) (W : WX) (kws : List Keyword) (m : AM) : Prop := L2.PK X kws (liftA X.K W m)
theorem jk_nil : JK X W [] aNil := ⟨fun pos pins s σ H Q' I ⟨S, h, t, Q, E, m, rs, lk, hm, pk⟩ => (pk_nil (X := X)).run pos pins s σ H Q' I (pk S H h [] [] Fut.refl m .nil hm)⟩
theorem jk_cons {e : Expr} {m : EM} {r : AM} {kws : List Keyword} {nm : Option Str} {kpos : Pos} (he : JE X W e m) (hr : JK X W kws r) : JK X W (⟨nm, e, kpos⟩ :: kws) (aCons m r) := ⟨fun pos pins s σ H Q' I ⟨S, h, t, Q, E, m, rs, lk, hm, pk⟩ => (pk_cons he hr).run pos pins s σ H Q' I
  ⟨S, h, t, _, E, m, rs, lk, hm, fun S1 H1 h1 v x f1 m1 r1 q1 => ⟨S1, h1, t, _, E, m1, rs.fut f1, lk.fut f1, q1, fun S2 H2 h2 vs xs f2 m2 r2 q2 => pk S2 H2 h2 _ _ (f1.trans f2) m2 (.cons (r1.fut f2) r2) q2⟩⟩⟩
theorem pe_makeW {CX : CXT} {k n : Nat} {f : Addr} {fd : FuncData} {ps ks : List Str} {sp : Sp} {E : L2.St → XK} {x : Str} {p pos : Pos} {e : Expr} {es : List Expr} {kws : List Keyword} {t tk : TA} (M : Mk X.K C f) (F : FnOk X.prog X.w X.K X.mg X.base CX k f fd ps sp) (hr : Room (k + 1) X.A) (hg : Gl X x) (hm : X.mg x = some (.ref C)) (hb : KBw X.K fd ps (n + 1) ks) (hx : ∀ σ, PassesAt CX X σ (E σ)) (ha : PA X (e :: es) t) (hkw : L2.PK X kws tk)
    (hall : (backToKw pos (keywordEach kws X.env)).all (·.1.isSome) = true) (hks : (backToKw pos (keywordEach kws X.env)).filterMap (·.1) = ks) (hdb : (x == ("__debug__" : Str)) = false)
    (he : starEach (e :: es) X.env = (false, eval e X.env) :: starEach es X.env) (hpl : ((backTo pos (starEach (e :: es) X.env)).any (·.1) || (backToKw pos (keywordEach kws X.env)).any (·.1.isNone)) = false) :
    PE X (.Call (.Name x p) (e :: es) kws pos) (tMakeW C n ks.length sp E t tk) := ⟨fun pins s σ H Q I h => by
  refine wpAny_Call_Name_kw (ld_glob I hg hm (PySem.W.callWith_KW (h₀ := X.base) I.ok.mod.kin M.kp hall (thn (ha.run pos pins s σ H _ I h) fun us s1 ⟨vs, H1, I1, r, q⟩ => ?_) hpl he) hdb)
  refine thn (hkw.run pos pins s1 σ H1 _ I1 q) fun ws s2 ⟨zs, H2, I2, rz, l1, l2, q2⟩ => ⟨I2.kIn, ?_⟩
  rw [hks]
  exact run_makeW M F hr hb (hx σ) I2 r rz l1 l2 q2⟩
def eMake (C : Addr) (n m : Nat) (c : Con) (ma mk : AM) : EM := fun s h Q E => ma s h (fun ts h1 => mk s h1 (fun zs h2 => ts.length = n ∧ zs.length = m ∧ ∀ p, h2 p = none → c (.ref p :: (ts ++ zs)) (put h2 p (.ins C [])) (fun v h3 => v = .non ∧ Q (.ref p) h3) fun y h3 => E y s h3) E) E
theorem j_make {CX : CXT} {k n nn mm : Nat} {f : Addr} {fd : FuncData} {ps ks : List Str} {c : Con} {x : Str} {p pos : Pos} {e : Expr} {es : List Expr} {kws : List Keyword} {ma mk : AM} (M : Mk X.K C f) (F : FnOk X.prog X.w X.K X.mg X.base CX k f fd ps (liftSp X.K nn c)) (hr : Room (k + 1) X.A) (hg : Gl X x) (hm : X.mg x = some (.ref C)) (hb : KBw X.K fd ps (n + 1) ks) (hx : ∀ σ, PassesAt CX X σ (WE W σ)) (ha : JA X W (e :: es) ma) (hkw : JK X W kws mk) (hmm : ks.length = mm := by rfl) (hnn : nn = 1 + (n + mm) := by rfl)
    (hall : (backToKw pos (keywordEach kws X.env)).all (·.1.isSome) = true := by rfl) (hks : (backToKw pos (keywordEach kws X.env)).filterMap (·.1) = ks := by rfl) (hdb : (x == ("__debug__" : Str)) = false := by decide)
    (he : starEach (e :: es) X.env = (false, eval e X.env) :: starEach es X.env := by rfl) (hpl : ((backTo pos (starEach (e :: es) X.env)).any (·.1) || (backToKw pos (keywordEach kws X.env)).any (·.1.isNone)) = false := by rfl) :
    JE X W (.Call (.Name x p) (e :: es) kws pos) (eMake C n mm c ma mk) := PE.wk (pe_makeW M F hr hg hm hb hx ha hkw hall hks hdb he hpl) fun σ H Q' ⟨S, h, s, Q, E, mm, rs, lk, hm, pk⟩ =>
  ⟨S, h, s, _, E, mm, rs, lk, hm, fun S1 H1 h1 vs ts f1 m1 r1 q1 => ⟨S1, h1, s, _, E, m1, rs.fut f1, lk.fut f1, q1, fun S2 H2 h2 zs us f2 m2 r2 ⟨l1, l2, q2⟩ => ⟨by rw [r1.length]; exact l1, by rw [r2.length, hmm]; exact l2, fun x dx nx nd ne => by
    have f12 := f1.trans f2
    have m3 : Sim X.K S2 (upd H2 dx (.own x)) h2 := m2.side nd
    have nx' : upd H2 dx (.own x) x = none := by rw [upd_ne (Ne.symm ne)]; exact nx
    have f3 : Fut S2 H2 S2 (upd (upd H2 dx (.own x)) x (.ins C dx [])) := (fut_upd (m2.nS nd)).trans (fut_upd (m3.nS nx'))
    have m4 : Sim X.K S2 (upd (upd H2 dx (.own x)) x (.ins C dx [])) (put h2 x (.ins C [])) := m3.new nx' ⟨dx, [], rfl, .nil⟩
    refine ⟨S2, _, .ref x :: (ts ++ us), _, _, m4, .cons (.ref x) ((r1.fut (f2.trans f3)).append (r2.fut f3)), ?_, q2 x (m2.free nx), ?_, ?_⟩
    · show (ts ++ us).length + 1 = _
      rw [List.length_append, l1, l2, hnn]; omega
    · intro S5 H5 h5 v u f5 m5 r5 ⟨e5, q5⟩
      subst e5
      cases r5
      exact ⟨rfl, pk S5 H5 h5 _ _ (f12.trans (f3.trans f5)) m5 (.ref x) q5⟩
    · intro S5 H5 h5 y cls d f5 m5 r5 q5
      exact lk S5 H5 h5 σ s y cls d (f12.trans (f3.trans f5)) m5 (rs.fut (f12.trans (f3.trans f5))) r5 q5⟩⟩⟩
def sPar3 (i j l : Nat) (a : AM) : SM := fun D s h => a s h (fun ts h1 => match ts with
  | [x, y, z] => D.nx (((s.set i (some x)).set j (some y)).set l (some z)) h1
  | _ => False) D.ex
end
end TL

namespace TL
open PySem L2
theorem vals_pick {xs : List V} {us : List Value} (r : Vals xs us) : ∀ idx : List Nat, Vals (idx.filterMap fun i => xs[i]?) (idx.filterMap fun i => us[i]?)
  | [] => .nil
  | i :: idx => by
    rw [List.filterMap_cons, List.filterMap_cons]
    cases e : xs[i]? with
    | none =>
      have : us[i]? = none := by
        have l := r.length
        have := List.getElem?_eq_none_iff.mp e
        exact List.getElem?_eq_none_iff.mpr (by omega)
      rw [this]
      exact vals_pick r idx
    | some x =>
      obtain ⟨u, e2, r2⟩ := r.get e
      rw [e2]
      exact .cons r2 (vals_pick r idx)
theorem repL_pick {K : PySem.W.Frag} {S : Fz} {H : Hp} {vs : List V} {ts : List T} (r : RepL K S H vs ts) : ∀ idx : List Nat, RepL K S H (idx.filterMap fun i => vs[i]?) (idx.filterMap fun i => ts[i]?)
  | [] => .nil
  | i :: idx => by
    rw [List.filterMap_cons, List.filterMap_cons]
    cases e : ts[i]? with
    | none =>
      have : vs[i]? = none := by
        have l := r.length
        have := List.getElem?_eq_none_iff.mp e
        exact List.getElem?_eq_none_iff.mpr (by omega)
      rw [this]
      exact repL_pick r idx
    | some x =>
      obtain ⟨u, e2, r2⟩ := r.get e
      rw [e2]
      exact .cons r2 (repL_pick r idx)
structure KBt (K : PySem.W.Frag) (fd : FuncData) (ps : List Str) (n : Nat) (ks : List Str) (gT : List T → List T → List T) : Prop where
  ex : ∃ g gV, KBn K fd ps n ks g gV ∧ ∀ S H vs zs ts us, RepL K S H vs ts → RepL K S H zs us → ts.length = n → us.length = ks.length → RepL K S H (gV vs zs) (gT ts us)
theorem kbt_of {K : PySem.W.Frag} {x qual : Str} {params : Arguments} {body : List Stmt} {scope : Scope} {kws : List (Str × V)} {f : Addr} {fd : FuncData} {ps : List Str} (F : FunD K x qual params body scope [] kws f fd) (n : Nat) (ks : List Str) (ms : List (Str × V)) (ds : List T) (idx : List Nat) (gT : List T → List T → List T)
    (hk : kws ≠ []) (hms : ∀ q ∈ ms, q ∈ kws) (hds : ∀ S H, RepL K S H (ms.map (·.2)) ds) (hg : ∀ ts us, ts.length = n → us.length = ks.length → gT ts us = ts ++ idx.filterMap fun i => (ds ++ us)[i]?)
    (h : ∀ (D : Addr) (doc pm : Value) (an : Option Addr) (cdv ct : Value) (us mv ws : List Value), us.length = n → mv.length = ms.length → ws.length = ks.length →
      KwChain D ((ms.map (·.1)).zip mv) (bindArgs (PySem.W.fnOf x qual params body scope .none (.ref D) doc pm an cdv ct) ⟨us, ks.zip ws⟩) (ps.zip (us ++ idx.filterMap fun i => (mv ++ ws)[i]?))) : KBt K fd ps n ks gT := by
  obtain ⟨mv, hb⟩ := F.kbinds0 n ks ms (fun {α} us mv ws => us ++ idx.filterMap fun i => (mv ++ ws)[i]?) hk hms (fun r1 r2 r3 => r1.append (vals_pick (r2.append r3) idx)) h
  refine ⟨_, _, hb, fun S H vs zs ts us r1 r2 l1 l2 => ?_⟩
  rw [hg ts us l1 l2]
  exact r1.append (repL_pick ((hds S H).append r2) idx)
theorem funD_of {K : PySem.W.Frag} {x qual : Str} {st : Stmt} {f : Addr} {oc : Value} {od an : Option Addr} {osl : Array (Option Value)} {D : Addr} {doc pm cdv ct : Value} {kws : List (Str × V)} (l : K.lookup f = some ⟨oc, od, .func (PySem.W.fnOf x qual (defArgs st) (defBody st) (defScope st) .none (.ref D) doc pm an cdv ct), osl⟩)
    (c : PySem.W.codeIn K cdv qual = true) (k : PySem.W.keepIn K (.ref f) = true) (h : ∀ q ∈ kws, ∃ u, PySem.W.nsIn K D q.1 = some (some u) ∧ RelV q.2 u) : FunD K x qual (defArgs st) (defBody st) (defScope st) [] kws f (PySem.W.fnOf x qual (defArgs st) (defBody st) (defScope st) .none (.ref D) doc pm an cdv ct) :=
  ⟨⟨oc, od, .none, .ref D, doc, pm, an, cdv, ct, osl, rfl, l, c, .inl ⟨rfl, rfl⟩, .inr ⟨D, rfl, h⟩⟩, k⟩
section
variable {X : Cx} {W : WX}
theorem run_fnK {CX : CXT} {k n : Nat} {f : Addr} {fd : FuncData} {ps ks : List Str} {sp : Sp} {E : XK} {g : List Value → List Value → List Value} {gV : List V → List V → List V} {pins : List (Addr × Obj)} {σ : L2.St} {H : Hp} {s : Shared} {Q : VK} {us ws : List Value} {vs zs : List V} (F : FnOk X.prog X.w X.K X.mg X.base CX k f fd ps sp) (hr : Room k X.A) (hb : KBn X.K fd ps n ks g gV) (hx : PassesAt CX X σ E)
    (I : Inv X pins σ H s) (r : Vals vs us) (rz : Vals zs ws) (l1 : vs.length = n) (l2 : zs.length = ks.length) (h : sp (gV vs zs) H Q E) : wpAny (model X.prog X.w) X.A (call (.ref f) us (ks.zip ws)) (EP X pins σ Q) X.xe s := by
  have r2 := hb.rel r rz
  refine wpAny_call (codeAny_mono (F.run X.A X.stack s H ⟨us, ks.zip ws⟩ (g us ws) (gV vs zs) Q E hr I.env0 (hb.to s us ws I.kIn (r.length.symm.trans l1) (rz.length.symm.trans l2)) r2 h) fun r s' hq => ?_)
  cases r with
  | error e => exact hx pins H s e s' I hq
  | ok fl =>
    cases fl with
    | ret u => exact I.after hq
    | next => exact False.elim hq
    | brk => exact False.elim hq
    | cont => exact False.elim hq
def tCallK (n m : Nat) (sp : Sp) (gV : List V → List V → List V) (E : L2.St → XK) (t tk : TA) : TE := fun σ H Q => t σ H fun vs H1 => tk σ H1 fun zs H2 => vs.length = n ∧ zs.length = m ∧ sp (gV vs zs) H2 Q (E σ)
theorem pe_callK {CX : CXT} {k n : Nat} {f : Addr} {fd : FuncData} {ps ks : List Str} {sp : Sp} {E : L2.St → XK} {g : List Value → List Value → List Value} {gV : List V → List V → List V} {x : Str} {p pos : Pos} {e : Expr} {es : List Expr} {kws : List Keyword} {t tk : TA} (F : FnOk X.prog X.w X.K X.mg X.base CX k f fd ps sp) (hr : Room k X.A) (hg : Gl X x) (hm : X.mg x = some (.ref f)) (hk : PySem.W.keepIn X.K (.ref f) = true) (hb : KBn X.K fd ps n ks g gV) (hx : ∀ σ, PassesAt CX X σ (E σ))
    (ha : PA X (e :: es) t) (hkw : L2.PK X kws tk) (hall : (backToKw pos (keywordEach kws X.env)).all (·.1.isSome) = true) (hks : (backToKw pos (keywordEach kws X.env)).filterMap (·.1) = ks)
    (hdb : (x == ("__debug__" : Str)) = false) (he : starEach (e :: es) X.env = (false, eval e X.env) :: starEach es X.env)
    (hpl : ((backTo pos (starEach (e :: es) X.env)).any (·.1) || (backToKw pos (keywordEach kws X.env)).any (·.1.isNone)) = false) :
    PE X (.Call (.Name x p) (e :: es) kws pos) (tCallK n ks.length sp gV E t tk) := by
  refine ⟨fun pins s σ H Q I h => ?_⟩
  refine wpAny_Call_Name_kw (ld_glob I hg hm ?_ hdb)
  refine PySem.W.callWith_KW (h₀ := X.base) I.ok.mod.kin hk hall (thn (ha.run pos pins s σ H _ I h) fun us s1 ⟨vs, H1, I1, r, q⟩ => ?_) hpl he
  refine thn (hkw.run pos pins s1 σ H1 _ I1 q) fun ws s2 ⟨zs, H2, I2, rz, l1, l2, q2⟩ => ⟨I2.kIn, ?_⟩
  rw [hks]
  exact run_fnK F hr hb (hx σ) I2 r rz l1 l2 q2
def eCallK (n m N : Nat) (gT : List T → List T → List T) (c : Con) (ma mk : AM) : EM := fun s h Q E => ma s h (fun ts h1 => mk s h1 (fun zs h2 => ts.length = n ∧ zs.length = m ∧ (gT ts zs).length = N ∧ c (gT ts zs) h2 Q fun x h3 => E x s h3) E) E
theorem j_callK {CX : CXT} {k n m N : Nat} {f : Addr} {fd : FuncData} {ps ks : List Str} {c : Con} {gT : List T → List T → List T} {x : Str} {p pos : Pos} {e : Expr} {es : List Expr} {kws : List Keyword} {ma mk : AM} (F : FnOk X.prog X.w X.K X.mg X.base CX k f fd ps (liftSp X.K N c)) (hr : Room k X.A) (hg : Gl X x) (hm : X.mg x = some (.ref f)) (hk : PySem.W.keepIn X.K (.ref f) = true) (hb : KBt X.K fd ps n ks gT) (hx : ∀ σ, PassesAt CX X σ (WE W σ))
    (ha : JA X W (e :: es) ma) (hkw : JK X W kws mk) (hmm : ks.length = m := by rfl) (hall : (backToKw pos (keywordEach kws X.env)).all (·.1.isSome) = true := by rfl) (hks : (backToKw pos (keywordEach kws X.env)).filterMap (·.1) = ks := by rfl)
    (hdb : (x == ("__debug__" : Str)) = false := by decide) (he : starEach (e :: es) X.env = (false, eval e X.env) :: starEach es X.env := by rfl)
    (hpl : ((backTo pos (starEach (e :: es) X.env)).any (·.1) || (backToKw pos (keywordEach kws X.env)).any (·.1.isNone)) = false := by rfl) :
    JE X W (.Call (.Name x p) (e :: es) kws pos) (eCallK n m N gT c ma mk) := by
  obtain ⟨g, gV, hb, hrep⟩ := hb.ex
  exact PE.wk (pe_callK (E := WE W) F hr hg hm hk hb hx ha hkw hall hks hdb he hpl) fun σ H Q' ⟨S, h, s, Q, E, mm, rs, lk, hm, pk⟩ =>
    ⟨S, h, s, _, E, mm, rs, lk, hm, fun S1 H1 h1 vs ts f1 m1 r1 q1 => ⟨S1, h1, s, _, E, m1, rs.fut f1, lk.fut f1, q1, fun S2 H2 h2 zs us f2 m2 r2 ⟨l1, l2, l3, q2⟩ =>
      ⟨by rw [r1.length]; exact l1, by rw [r2.length, hmm]; exact l2, S2, h2, _, Q, _, m2, hrep S2 H2 vs zs ts us (r1.fut f2) r2 l1 (l2.trans hmm.symm), l3, q2, pk.fut (f1.trans f2), fun S3 H3 h3 x cls d f3 m3 r3 q3 => lk S3 H3 h3 σ s x cls d ((f1.trans f2).trans f3) m3 (rs.fut ((f1.trans f2).trans f3)) r3 q3⟩⟩⟩
theorem run_makeX {C : Addr} {CX : CXT} {k n : Nat} {f : Addr} {fd : FuncData} {ps ks : List Str} {sp : Sp} {E : XK} {g : List Value → List Value → List Value} {gV : List V → List V → List V} {pins : List (Addr × Obj)} {σ : L2.St} {H : Hp} {s : Shared} {Q : VK} {us ws : List Value} {vs zs : List V} (M : Mk X.K C f) (F : FnOk X.prog X.w X.K X.mg X.base CX k f fd ps sp) (hr : Room (k + 1) X.A) (hb : KBn X.K fd ps (n + 1) ks g gV) (hx : PassesAt CX X σ E)
    (I : Inv X pins σ H s) (r : Vals vs us) (rz : Vals zs ws) (l1 : vs.length = n) (l2 : zs.length = ks.length)
    (h : ∀ x dx, H x = none → H dx = none → dx ≠ x → sp (gV (.ref x :: vs) zs) (upd (upd H dx (.own x)) x (.ins C dx [])) (fun v H2 => v = .non ∧ Q (.ref x) H2) E) :
    wpAny (model X.prog X.w) X.A (call (.ref C) us (ks.zip ws)) (EP X pins σ Q) X.xe s := by
  have hq := h (s.heap.objs.size + 1) s.heap.objs.size (I.hok.fresh (Nat.le_succ _)) (I.hok.fresh (Nat.le_refl _)) (Nat.ne_of_lt (Nat.lt_succ_self _))
  have I2 := Inv.made (C := C) I
  have r1 : Vals (V.ref (s.heap.objs.size + 1) :: vs) (Value.ref (s.heap.objs.size + 1) :: us) := .cons rfl r
  have r2 := hb.rel r1 rz
  have n1 : (Value.ref (s.heap.objs.size + 1) :: us).length = n + 1 := by rw [List.length_cons, ← r.length, l1]
  have bd := hb.to _ (Value.ref (s.heap.objs.size + 1) :: us) ws I2.kIn n1 (rz.length.symm.trans l2)
  refine wpAny_call (make_map (f := f) I.kIn M.makes M.init (beq_iff_eq.mp M.fn) (codeAny_mono (F.run _ X.stack _ _ _ _ _ _ E (hr.make C us (ks.zip ws)) (I2.env0.make C us (ks.zip ws)) bd r2 hq) fun o s' hq' => ?_))
  rcases o with e | (u | _ | _ | _)
  · exact hx pins _ _ e s' I2 hq'
  all_goals first
    | exact False.elim hq'
    | (obtain ⟨v, H', I3, rv, ev, q3⟩ := I2.after hq'
       subst ev
       exact ⟨rv, ⟨V.ref (s.heap.objs.size + 1), H', I3, rfl, q3⟩⟩)
def tMakeX (C : Addr) (n m : Nat) (sp : Sp) (gV : List V → List V → List V) (E : L2.St → XK) (t tk : TA) : TE := fun σ H Q => t σ H fun vs H1 => tk σ H1 fun zs H2 => vs.length = n ∧ zs.length = m ∧ ∀ x dx, H2 x = none → H2 dx = none → dx ≠ x →
  sp (gV (.ref x :: vs) zs) (upd (upd H2 dx (.own x)) x (.ins C dx [])) (fun v H3 => v = .non ∧ Q (.ref x) H3) (E σ)
theorem pe_makeX {C : Addr} {CX : CXT} {k n : Nat} {f : Addr} {fd : FuncData} {ps ks : List Str} {sp : Sp} {E : L2.St → XK} {g : List Value → List Value → List Value} {gV : List V → List V → List V} {x : Str} {p pos : Pos} {e : Expr} {es : List Expr} {kws : List Keyword} {t tk : TA} (M : Mk X.K C f) (F : FnOk X.prog X.w X.K X.mg X.base CX k f fd ps sp) (hr : Room (k + 1) X.A) (hg : Gl X x) (hm : X.mg x = some (.ref C)) (hb : KBn X.K fd ps (n + 1) ks g gV) (hx : ∀ σ, PassesAt CX X σ (E σ)) (ha : PA X (e :: es) t) (hkw : L2.PK X kws tk)
    (hall : (backToKw pos (keywordEach kws X.env)).all (·.1.isSome) = true) (hks : (backToKw pos (keywordEach kws X.env)).filterMap (·.1) = ks) (hdb : (x == ("__debug__" : Str)) = false)
    (he : starEach (e :: es) X.env = (false, eval e X.env) :: starEach es X.env) (hpl : ((backTo pos (starEach (e :: es) X.env)).any (·.1) || (backToKw pos (keywordEach kws X.env)).any (·.1.isNone)) = false) :
    PE X (.Call (.Name x p) (e :: es) kws pos) (tMakeX C n ks.length sp gV E t tk) := ⟨fun pins s σ H Q I h => by
  refine wpAny_Call_Name_kw (ld_glob I hg hm (PySem.W.callWith_KW (h₀ := X.base) I.ok.mod.kin M.kp hall (thn (ha.run pos pins s σ H _ I h) fun us s1 ⟨vs, H1, I1, r, q⟩ => ?_) hpl he) hdb)
  refine thn (hkw.run pos pins s1 σ H1 _ I1 q) fun ws s2 ⟨zs, H2, I2, rz, l1, l2, q2⟩ => ⟨I2.kIn, ?_⟩
  rw [hks]
  exact run_makeX M F hr hb (hx σ) I2 r rz l1 l2 q2⟩
def eMakeX (C : Addr) (n m N : Nat) (gT : List T → List T → List T) (c : Con) (ma mk : AM) : EM := fun s h Q E => ma s h (fun ts h1 => mk s h1 (fun zs h2 => ts.length = n ∧ zs.length = m ∧ ∀ p, h2 p = none → (gT (.ref p :: ts) zs).length = N ∧ c (gT (.ref p :: ts) zs) (put h2 p (.ins C [])) (fun v h3 => v = .non ∧ Q (.ref p) h3) fun y h3 => E y s h3) E) E
theorem j_makeX {C : Addr} {CX : CXT} {k n N mm : Nat} {f : Addr} {fd : FuncData} {ps ks : List Str} {c : Con} {gT : List T → List T → List T} {x : Str} {p pos : Pos} {e : Expr} {es : List Expr} {kws : List Keyword} {ma mk : AM} (M : Mk X.K C f) (F : FnOk X.prog X.w X.K X.mg X.base CX k f fd ps (liftSp X.K N c)) (hr : Room (k + 1) X.A) (hg : Gl X x) (hm : X.mg x = some (.ref C)) (hb : KBt X.K fd ps (n + 1) ks gT) (hx : ∀ σ, PassesAt CX X σ (WE W σ)) (ha : JA X W (e :: es) ma) (hkw : JK X W kws mk) (hmm : ks.length = mm := by rfl)
    (hall : (backToKw pos (keywordEach kws X.env)).all (·.1.isSome) = true := by rfl) (hks : (backToKw pos (keywordEach kws X.env)).filterMap (·.1) = ks := by rfl) (hdb : (x == ("__debug__" : Str)) = false := by decide)
    (he : starEach (e :: es) X.env = (false, eval e X.env) :: starEach es X.env := by rfl) (hpl : ((backTo pos (starEach (e :: es) X.env)).any (·.1) || (backToKw pos (keywordEach kws X.env)).any (·.1.isNone)) = false := by rfl) :
    JE X W (.Call (.Name x p) (e :: es) kws pos) (eMakeX C n mm N gT c ma mk) := by
  obtain ⟨g, gV, hb, hrep⟩ := hb.ex
  exact PE.wk (pe_makeX M F hr hg hm hb hx ha hkw hall hks hdb he hpl) fun σ H Q' ⟨S, h, s, Q, E, mm', rs, lk, hm, pk⟩ =>
  ⟨S, h, s, _, E, mm', rs, lk, hm, fun S1 H1 h1 vs ts f1 m1 r1 q1 => ⟨S1, h1, s, _, E, m1, rs.fut f1, lk.fut f1, q1, fun S2 H2 h2 zs us f2 m2 r2 ⟨l1, l2, q2⟩ => ⟨by rw [r1.length]; exact l1, by rw [r2.length, hmm]; exact l2, fun x dx nx nd ne => by
    have f12 := f1.trans f2
    have m3 : Sim X.K S2 (upd H2 dx (.own x)) h2 := m2.side nd
    have nx' : upd H2 dx (.own x) x = none := by rw [upd_ne (Ne.symm ne)]; exact nx
    have f3 : Fut S2 H2 S2 (upd (upd H2 dx (.own x)) x (.ins C dx [])) := (fut_upd (m2.nS nd)).trans (fut_upd (m3.nS nx'))
    have m4 : Sim X.K S2 (upd (upd H2 dx (.own x)) x (.ins C dx [])) (put h2 x (.ins C [])) := m3.new nx' ⟨dx, [], rfl, .nil⟩
    obtain ⟨l3, q3⟩ := q2 x (m2.free nx)
    refine ⟨S2, _, _, _, _, m4, hrep S2 _ (.ref x :: vs) zs (.ref x :: ts) us (.cons (.ref x) (r1.fut (f2.trans f3))) (r2.fut f3) (by rw [List.length_cons, l1]) (l2.trans hmm.symm), l3, q3, ?_, ?_⟩
    · intro S5 H5 h5 v u f5 m5 r5 ⟨e5, q5⟩
      subst e5
      cases r5
      exact ⟨rfl, pk S5 H5 h5 _ _ (f12.trans (f3.trans f5)) m5 (.ref x) q5⟩
    · intro S5 H5 h5 y cls d f5 m5 r5 q5
      exact lk S5 H5 h5 σ s y cls d (f12.trans (f3.trans f5)) m5 (rs.fut (f12.trans (f3.trans f5))) r5 q5⟩⟩⟩
theorem RepL.reverse {K : PySem.W.Frag} {S : Fz} {H : Hp} : ∀ {v : List V} {t : List T}, RepL K S H v t → RepL K S H v.reverse t.reverse
  | _, _, .nil => .nil
  | _, _, .cons r q => by rw [List.reverse_cons, List.reverse_cons]; exact (RepL.reverse q).append (.cons r .nil)
def eRev (fl : Bool) (m : EM) : EM := fun s h Q E => m s h (fun x h1 => match lsOf h1 x with
  | some ts => mk fl ts.reverse h1 Q
  | none => False) E
def reprT : T → Option Str
  | .non => some ("None" : Str)
  | .bl b => some (if b then "True" else "False" : String)
  | .int i => if i.natAbs.log2 < 1920 then some (toString i : String) else none
  | .str x => if (reprText x).length ≤ 1000000 then some (reprText x) else none
  | _ => none
def oRepr : RLT := fun xs h Q => match xs with
  | [x] => match reprT x with
    | some z => Q (.str z) h
    | none => False
  | _ => False
def rRepr : List V → Hp → VK → Prop := fun xs H Q => (xs = [.non] ∧ Q (.str ("None" : Str)) H) ∨ (∃ b : Bool, xs = [.bl b] ∧ Q (.str ((if b then "True" else "False" : String) : Str)) H) ∨ (∃ i : Int, xs = [.int i] ∧ i.natAbs.log2 < 1920 ∧ Q (.str ((toString i : String) : Str)) H) ∨ (∃ x : Str, xs = [.str x] ∧ (reprText x).length ≤ sizeLine ∧ Q (.str (reprText x)) H)
theorem call_repr : CallR X (.builtin "repr") rRepr := by
  intro pins s σ H xs us Q I r h
  rcases h with ⟨rfl, q⟩ | ⟨b, rfl, q⟩ | ⟨i, rfl, hz, q⟩ | ⟨x, rfl, hz, q⟩
  · obtain ⟨u, rfl, e⟩ := vals1 r
    obtain rfl : u = .none := e
    exact PySem.P.repr_of_none ⟨.str _, H, I.tok _, ⟨_, rfl⟩, q⟩
  · obtain ⟨u, rfl, e⟩ := vals1 r
    obtain rfl : u = .bool b := e
    refine PySem.P.repr_of_bool ⟨.str _, H, I.tok _, ⟨_, rfl⟩, ?_⟩
    cases b <;> exact q
  · obtain ⟨u, rfl, t, rfl⟩ := vals1 r
    exact PySem.P.repr_of_int hz ⟨.str _, H, I.tok _, ⟨_, rfl⟩, q⟩
  · obtain ⟨u, rfl, t, rfl⟩ := vals1 r
    exact PySem.P.repr_of_str ⟨.str _, H, I.tok _, ⟨_, rfl⟩, q⟩ hz
theorem c_repr {K : PySem.W.Frag} : CP K rRepr oRepr := fun S H h vs xs Q Q' m r q pk => by
  unfold oRepr at q
  split at q
  · cases r with
    | cons r1 rn =>
      cases rn
      split at q
      · rename_i z e
        cases r1 <;> simp only [reprT] at e <;> first
          | (cases e; done)
          | skip
        · cases e; exact .inl ⟨rfl, pk S H h _ _ Fut.refl m (.str _) q⟩
        · cases e; exact .inr (.inl ⟨_, rfl, pk S H h _ _ Fut.refl m (.str _) q⟩)
        · split at e
          · cases e; exact .inr (.inr (.inl ⟨_, rfl, by assumption, pk S H h _ _ Fut.refl m (.str _) q⟩))
          · cases e
        · split at e
          · cases e; exact .inr (.inr (.inr ⟨_, rfl, lim_le (by assumption), pk S H h _ _ Fut.refl m (.str _) q⟩))
          · cases e
      · exact q.elim
  · exact q.elim
def PureTo (m : EM) (t : T) : Prop := ∀ (s : Sl) (h : Hq) (Q : TK) (E : EX), Q t h → m s h Q E
def PureA (m : AM) (ts : List T) : Prop := ∀ (s : Sl) (h : Hq) (Q : List T → Hq → Prop) (E : EX), Q ts h → m s h Q E
theorem pu_c {t : T} : PureTo (eC t) t := fun _ _ _ _ q => q
theorem pa_n : PureA aNil [] := fun _ _ _ _ q => q
theorem pa_c {m : EM} {r : AM} {t : T} {ts : List T} (a : PureTo m t) (b : PureA r ts) : PureA (aCons m r) (t :: ts) := fun s h Q E q => a s h _ E (b s h _ E q)
theorem pu_tup {r : AM} {ts : List T} (a : PureA r ts) (l : ts.length ≤ 1000000) : PureTo (eTup r) (.tup ts) := fun s h Q E q => a s h _ E ⟨l, q⟩
theorem pu_lst {r : AM} {ts : List T} (a : PureA r ts) (l : ts.length ≤ 1000000) : PureTo (eLst true r) (.lst ts) := fun s h Q E q => a s h _ E ⟨l, by rw [mk_true]; exact q⟩
theorem pu_neg {m : EM} {i : Int} (a : PureTo m (.int i)) : PureTo (eNeg m) (.int (-i)) := fun s h Q E q => a s h _ E q
theorem pu_sub {m n : EM} {i j : Int} (a : PureTo m (.int i)) (b : PureTo n (.int j)) : PureTo (eOp oSub m n) (.int (i - j)) := fun s h Q E q => a s h _ E (b s h _ E q)
theorem pu_add {fl : Bool} {m n : EM} {i j : Int} (a : PureTo m (.int i)) (b : PureTo n (.int j)) : PureTo (eOp (oAdd fl) m n) (.int (i + j)) := fun s h Q E q => a s h _ E (b s h _ E q)
theorem pu_pow {m n : EM} {i j : Int} (a : PureTo m (.int i)) (b : PureTo n (.int j)) (c : 0 ≤ j ∧ j ≤ 1000 ∧ i.natAbs < 2 ^ 64) : PureTo (eOp oPow m n) (.int (i ^ j.toNat)) := fun s h Q E q => a s h _ E (b s h _ E ⟨c, q⟩)
theorem j_pure {e : Expr} {m : EM} {t : T} (j : JE X W e m) (p : PureTo m t) : JE X W e (eC t) := PE.wk j fun σ H Q' ⟨S, h, s, Q, E, mm, rs, lk, hm, pk⟩ => ⟨S, h, s, Q, E, mm, rs, lk, p s h Q E hm, pk⟩
end
theorem oMax2 {i j : Int} {h : Hq} {Q : TK} : oMax [.int i, .int j] h Q = Q (.int (if j > i then j else i)) h := rfl
theorem oMin2 {i j : Int} {h : Hq} {Q : TK} : oMin [.int i, .int j] h Q = Q (.int (if j < i then j else i)) h := rfl
theorem oMax1 {ts : List T} {ns : List Int} {h : Hq} {Q : TK} (e : intsOf ts = some ns) : oMax [.lst ts] h Q = (0 < ns.length ∧ ∀ m, m ∈ ns → (∀ y, y ∈ ns → y ≤ m) → Q (.int m) h) := by
  unfold oMax
  simp only [intsIn, lsOf, Option.bind_some, e]
theorem oMin1 {ts : List T} {ns : List Int} {h : Hq} {Q : TK} (e : intsOf ts = some ns) : oMin [.lst ts] h Q = (0 < ns.length ∧ ∀ m, m ∈ ns → (∀ y, y ∈ ns → m ≤ y) → Q (.int m) h) := by
  unfold oMin
  simp only [intsIn, lsOf, Option.bind_some, e]
theorem oAddI' {fl : Bool} {i j : Int} {h : Hq} {Q : TK} : oAdd fl (.int i) (.int j) h Q = Q (.int (i + j)) h := rfl
theorem oAddL {fl : Bool} {xs ys : List T} {h : Hq} {Q : TK} : oAdd fl (.lst xs) (.lst ys) h Q = (xs.length + ys.length ≤ 1000000 ∧ mk fl (xs ++ ys) h Q) := rfl
theorem oMulI' {fl : Bool} {i j : Int} {h : Hq} {Q : TK} : oMul fl (.int i) (.int j) h Q = (MulOk i j ∧ Q (.int (i * j)) h) := rfl
end TL

namespace TL
open PySem L2
def keyT : T → Option Key
  | .int i => some (.inl i)
  | .str x => some (.inr x)
  | _ => none
section
variable {κ : Type} [DecidableEq κ]
def valT (gs : List (κ × T)) (k : κ) : Option T := (gs.find? fun kv => decide (kv.1 = k)).map (·.2)
def putD (gs : List (κ × T)) (k : κ) (v : T) : List (κ × T) := if (gs.any fun kv => decide (kv.1 = k)) = true then gs.map (fun kv => if kv.1 = k then (kv.1, v) else kv) else gs ++ [(k, v)]
variable {K : PySem.W.Frag} {S : Fz} {H : Hp}
theorem RepD.cases {kvs : List (κ × V)} {gs : List (κ × T)} (r : RepD K S H kvs gs) : (kvs = [] ∧ gs = []) ∨ ∃ k v t kvs' gs', kvs = (k, v) :: kvs' ∧ gs = (k, t) :: gs' ∧ Rep K S H v t ∧ RepD K S H kvs' gs' := by
  obtain ⟨h1, h2⟩ := r
  cases kvs with
  | nil =>
    cases gs with
    | nil => exact .inl ⟨rfl, rfl⟩
    | cons g gs => simp at h1
  | cons kv kvs =>
    cases gs with
    | nil => simp at h1
    | cons g gs =>
      obtain ⟨k, v⟩ := kv
      obtain ⟨k', t⟩ := g
      simp only [List.map_cons, List.cons.injEq] at h1
      obtain ⟨rfl, h1⟩ := h1
      rw [List.map_cons, List.map_cons] at h2
      cases h2 with
      | cons r q => exact .inr ⟨k, v, t, kvs, gs, rfl, rfl, r, h1, q⟩
theorem RepD.nil : RepD K S H ([] : List (κ × V)) [] := ⟨rfl, .nil⟩
theorem RepD.cons {k : κ} {v : V} {t : T} {kvs : List (κ × V)} {gs : List (κ × T)} (r : Rep K S H v t) (q : RepD K S H kvs gs) : RepD K S H ((k, v) :: kvs) ((k, t) :: gs) := ⟨by rw [List.map_cons, List.map_cons, q.1], .cons r q.2⟩
theorem RepD.val {k : κ} : ∀ {kvs : List (κ × V)} {gs : List (κ × T)}, RepD K S H kvs gs → (∀ t, valT gs k = some t → ∃ v, valV kvs k = some v ∧ Rep K S H v t) ∧ (valT gs k = none → valV kvs k = none) := by
  intro kvs
  induction kvs with
  | nil =>
    intro gs r
    rcases r.cases with ⟨_, rfl⟩ | ⟨_, _, _, _, _, z, _⟩
    · exact ⟨(fun t e => by cases e), fun _ => rfl⟩
    · cases z
  | cons kv kvs ih =>
    intro gs r
    rcases r.cases with ⟨z, _⟩ | ⟨k', v, t, kvs', gs', z, rfl, r1, r2⟩
    · cases z
    · cases z
      by_cases c : k' = k
      · subst c
        refine ⟨fun u e => ⟨v, valV_pos (p := (k', v)) rfl, ?_⟩, fun e => ?_⟩
        · simp [valT, List.find?_cons] at e
          subst e; exact r1
        · simp [valT, List.find?_cons] at e
      · obtain ⟨i1, i2⟩ := ih r2
        have e1 : valT ((k', t) :: gs') k = valT gs' k := by simp [valT, List.find?_cons, c]
        have e2 : valV ((k', v) :: kvs) k = valV kvs k := valV_neg (p := (k', v)) c
        rw [e1, e2]
        exact ⟨i1, i2⟩
theorem RepD.any {k : κ} {kvs : List (κ × V)} {gs : List (κ × T)} (r : RepD K S H kvs gs) : (kvs.any fun kv => decide (kv.1 = k)) = (gs.any fun kv => decide (kv.1 = k)) := by
  have e1 : (kvs.any fun kv => decide (kv.1 = k)) = (kvs.map (·.1)).any fun z => decide (z = k) := by rw [List.any_map]; rfl
  have e2 : (gs.any fun kv => decide (kv.1 = k)) = (gs.map (·.1)).any fun z => decide (z = k) := by rw [List.any_map]; rfl
  rw [e1, e2, r.1]
theorem RepD.app {kvs ls : List (κ × V)} {gs ms : List (κ × T)} (r : RepD K S H kvs gs) (q : RepD K S H ls ms) : RepD K S H (kvs ++ ls) (gs ++ ms) := ⟨by rw [List.map_append, List.map_append, r.1, q.1], by rw [List.map_append, List.map_append]; exact r.2.append q.2⟩
theorem RepD.put {k : κ} {v : V} {t : T} {kvs : List (κ × V)} {gs : List (κ × T)} (r : RepD K S H kvs gs) (q : Rep K S H v t) : RepD K S H (putK kvs k v) (putD gs k t) := by
  unfold putK putD
  rw [r.any]
  split
  · rename_i hany
    clear hany
    induction kvs generalizing gs with
    | nil =>
      rcases r.cases with ⟨_, rfl⟩ | ⟨_, _, _, _, _, z, _⟩
      · exact .nil
      · cases z
    | cons kv kvs ih =>
      rcases r.cases with ⟨z, _⟩ | ⟨k', v', t', kvs', gs', z, rfl, r1, r2⟩
      · cases z
      · cases z
        rw [List.map_cons, List.map_cons]
        by_cases c : k' = k
        · rw [if_pos c, if_pos c]; exact .cons q (ih r2)
        · rw [if_neg c, if_neg c]; exact .cons r1 (ih r2)
  · exact r.app (.cons q .nil)
theorem RepD.length {kvs : List (κ × V)} {gs : List (κ × T)} (r : RepD K S H kvs gs) : kvs.length = gs.length := by
  have := congrArg List.length r.1
  simpa using this
theorem RepD.fu {S1 : Fz} {H1 : Hp} {kvs : List (κ × V)} {gs : List (κ × T)} (f : Fu S H S1 H1) (r : RepD K S H kvs gs) : RepD K S1 H1 kvs gs := ⟨r.1, r.2.fu f⟩
theorem RepD.fut {S1 : Fz} {H1 : Hp} {kvs : List (κ × V)} {gs : List (κ × T)} (f : Fut S H S1 H1) (r : RepD K S H kvs gs) : RepD K S1 H1 kvs gs := r.fu f.fu
end
def dOf : Option O → Option (List (Key × T))
  | some (.dK gs) => some gs
  | some (.dL _ gs) => some gs
  | _ => none
section
variable {X : Cx} {W : WX} {K : PySem.W.Frag} {S : Fz} {H : Hp} {h : Hq}
theorem dOf_rd (m : Sim K S H h) {p : Addr} {gs : List (Key × T)} (e : dOf (h p) = some gs) : ∃ kvs, Rd H p (.dK kvs) ∧ RepD K S H kvs gs := by
  cases z : h p with
  | none => rw [z] at e; cases e
  | some o =>
    rw [z] at e
    cases o with
    | dK _ =>
      cases e
      obtain ⟨u, e1, kvs, e2, r⟩ := m.ob p _ z
      subst e2
      exact ⟨kvs, .inl e1, r⟩
    | dL _ _ =>
      cases e
      obtain ⟨u, e1, e0, o, kvs, e2, r⟩ := m.ob p _ z
      subst e0
      subst e2
      exact ⟨kvs, .inr ⟨o, e1⟩, r⟩
    | _ => cases e
theorem ref_dK (m : Sim K S H h) {p : Addr} {gs : List (Key × T)} (e : h p = some (.dK gs)) : ∃ kvs, H p = some (.dK kvs) ∧ RepD K S H kvs gs := by
  obtain ⟨u, e1, kvs, e2, r⟩ := m.ob p _ e
  subst e2
  exact ⟨kvs, e1, r⟩
theorem keyT_ok {v : V} {t : T} {k : Key} (r : Rep K S H v t) (e : keyT t = some k) : v = kV k := by
  cases r <;> simp only [keyT] at e <;> first
    | (cases e; done)
    | (cases e; rfl)
def eDNew : EM := fun _ h Q _ => ∀ p, h p = none → Q (.ref p) (put h p (.dK []))
theorem j_dnew {pos : Pos} : JE X W (.Dict [] [] pos) eDNew := PE.wk pe_dnewK fun σ H Q' ⟨S, h, s, Q, E, m, rs, lk, hm, pk⟩ p np =>
  pk S _ _ _ _ (fut_upd (m.nS np)) (m.new (o := .dK []) np ⟨[], rfl, .nil⟩) (.ref p) (hm p (m.free np))
def eDIn (neg : Bool) (a b : EM) : EM := fun s h Q E => a s h (fun y h1 => b s h1 (fun x h2 => match x with
  | .ref p => match dOf (h2 p) with
    | some gs => match keyT y with
      | some k => Q (.bl (xor neg (valT gs k).isSome)) h2
      | none => False
    | _ => False
  | _ => False) E) E
theorem din_ok (m : Sim K S H h) {p : Addr} {gs : List (Key × T)} {k : Key} (e : dOf (h p) = some gs) : ∃ o, DGet H p (kV k) o ∧ o.isSome = (valT gs k).isSome := by
  obtain ⟨kvs, e1, r⟩ := dOf_rd m e
  refine ⟨valV kvs k, .inl ⟨kvs, k, e1, rfl, rfl⟩, ?_⟩
  obtain ⟨r1, r2⟩ := r.val (k := k)
  cases z : valT gs k with
  | none => rw [r2 z]; rfl
  | some t => obtain ⟨v, ev, _⟩ := r1 t z; rw [ev]; rfl
theorem lift_dnotin {a b : EM} : ∀ σ H Q, liftE K W (eDIn true a b) σ H Q → tDNotIn (liftE K W a) (liftE K W b) σ H Q := fun σ H Q' ⟨S, h, s, Q, E, m, rs, lk, hm, pk⟩ =>
  ⟨S, h, s, _, E, m, rs, lk, hm, fun S1 H1 h1 v y f1 m1 r1 q1 => ⟨S1, h1, s, _, E, m1, rs.fut f1, lk.fut f1, q1, fun S2 H2 h2 w x f2 m2 r2 q2 => by
    split at q2
    · split at q2
      · split at q2
        · rename_i p _ gs e _ k ek
          cases r2
          rw [keyT_ok (r1.fut f2) ek]
          obtain ⟨o, d, eo⟩ := din_ok m2 (k := k) e
          refine ⟨p, o, rfl, d, pk S2 H2 h2 _ _ (f1.trans f2) m2 (.bl _) ?_⟩
          rw [eo]
          simpa using q2
        · exact q2.elim
      · exact q2.elim
    · exact q2.elim⟩⟩
theorem tB_test {t : TE} : ∀ σ H Q, tTest t σ H Q → tB t σ H Q := fun σ H Q q => q
theorem jt_dnotin {i o : Expr} {a b : EM} {pos : Pos} (hu : X.A.units + 1 < cLine) (hi : JE X W i a) (ho : JE X W o b) (hm : behindInMarks .NotIn o = false := by rfl) : JT X W (.Compare i [.NotIn] [o] pos) (tOf (eDIn true a b)) := PT.wk (pt_cmp (pc_dnotin hu hi ho) hm) fun σ H Q q => tB_test σ H Q (tTest_mono lift_dnotin σ H Q (lift_test σ H Q q))
def eDGet (a b : EM) : EM := fun s h Q E => a s h (fun x h1 => b s h1 (fun y h2 => match x with
  | .ref p => match dOf (h2 p) with
    | some gs => match keyT y with
      | some k => match valT gs k with
        | some t => Q t h2
        | none => False
      | none => False
    | _ => False
  | _ => False) E) E
theorem j_dget {o i : Expr} {a b : EM} {pos : Pos} (hu : X.A.units + 1 < cLine) (hs : NoSl i) (ho : JE X W o a) (hi : JE X W i b) : JE X W (.Subscript o i pos) (eDGet a b) := PE.wk (pe_dget hu ho hi hs) fun σ H Q' ⟨S, h, s, Q, E, m, rs, lk, hm, pk⟩ =>
  ⟨S, h, s, _, E, m, rs, lk, hm, fun S1 H1 h1 v x f1 m1 r1 q1 => ⟨S1, h1, s, _, E, m1, rs.fut f1, lk.fut f1, q1, fun S2 H2 h2 w y f2 m2 r2 q2 => by
    split at q2
    · split at q2
      · split at q2
        · split at q2
          · rename_i p _ gs e _ k ek _ t et
            cases r1
            rw [keyT_ok r2 ek]
            obtain ⟨kvs, e1, r⟩ := dOf_rd m2 e
            obtain ⟨z, ez, rz⟩ := (r.val (k := k)).1 t et
            exact ⟨p, z, rfl, by rw [← ez]; exact .inl ⟨kvs, k, e1, rfl, rfl⟩, pk S2 H2 h2 _ _ (f1.trans f2) m2 rz q2⟩
          · exact q2.elim
        · exact q2.elim
      · exact q2.elim
    · exact q2.elim⟩⟩
def DcK (ts : List T) (stay : Hq → Prop) (g : T → Sl → Option Sl) (tt : TM) (ek ev : EM) (s : Sl) (h1 : Hq) (Q : TK) : Prop := ∃ I : Nat → List (Key × T) → Hq → Prop, I 0 [] h1 ∧ ∀ i acc h, i ≤ ts.length → I i acc h → stay h ∧ match ts[i]? with
  | none => ∀ p, h p = none → Q (.ref p) (put h p (.dK acc))
  | some t => acc.length < lim ∧ match g t s with
    | some s2 => tt s2 h (fun b h3 => if b = true then ek s2 h3 (fun y h4 => ev s2 h4 (fun z h5 => ∃ k, keyT y = some k ∧ I (i + 1) (putD acc k z) h5) E0) E0 else I (i + 1) acc h3) E0
    | none => False
def eDc (src : IM) (g : T → Sl → Option Sl) (tt : TM) (ek ev : EM) : EM := fun s h Q E => src s h (fun ts stay h1 => DcK ts stay g tt ek ev s h1 Q) E
def sDPutT (mo mi mv : EM) : SM := fun D s h => mv s h (fun v h1 => mo s h1 (fun x h2 => mi s h2 (fun y h3 => match x with
  | .ref p => match h3 p with
    | some (.dK gs) => gs.length < lim ∧ match keyT y with
      | some k => D.nx s (put h3 p (.dK (putD gs k v)))
      | none => False
    | _ => False
  | _ => False) D.ex) D.ex) D.ex
end
theorem view_bl {h : Hq} {b : Bool} : view h (.bl b) = .bl b := rfl
theorem dep_bl {b : Bool} : depth? (.bl b) = true := rfl
theorem eqT_tt : eqT (.bl true) (.bl true) = true := rfl
theorem eqT_ff : eqT (.bl false) (.bl false) = true := rfl
theorem eqT_tf : eqT (.bl true) (.bl false) = false := rfl
theorem eqT_ft : eqT (.bl false) (.bl true) = false := rfl
end TL

namespace TL
open PySem L2
section
variable {X : Cx} {W : WX} {K : PySem.W.Frag} {C : Addr}
theorem instAt {pins : List (Addr × Obj)} {σ : L2.St} {H : Hp} {s : Shared} {a dx : Addr} {fs : List (Str × V)} (I : Inv X pins σ H s) (e : H a = some (.ins C dx fs)) : ∃ od, PySem.W.InstAt s.heap a (PySem.W.instObj C dx) C (some od) := by
  obtain ⟨mA, O, _⟩ := ins_get I.hok e
  obtain ⟨od, J, _⟩ := O.look
  exact ⟨od, J⟩
theorem noneAt {P : Program} {w : World} (hP : X.prog = P) (hw : X.w = w) (σ : L2.St) : PassesAt (L2N.CX P w) X σ (fun _ _ _ => False) := fun pins H s e s' I c => by
  obtain ⟨_, _, _, _, _, _, _, _, _, _, _, _, z⟩ := c
  exact z.elim
theorem back_ep {pins : List (Addr × Obj)} {σ : L2.St} {Q : VK} {u : Value} {s : Shared} (h : EP X pins σ Q u s) : PySem.W.CmpBack (EP X pins σ Q) u s := by
  obtain ⟨v, H', I, r, q⟩ := h
  have k : EP X pins σ Q u s := ⟨v, H', I, r, q⟩
  cases v with
  | non => obtain rfl : u = .none := r; exact k
  | bl b => obtain rfl : u = .bool b := r; exact k
  | int i => obtain ⟨t, rfl⟩ := r; exact k
  | str x => obtain ⟨t, rfl⟩ := r; exact k
  | byt b => obtain ⟨t, rfl⟩ := r; exact k
  | flt b => obtain ⟨t, rfl⟩ := r; exact k
  | ref a => obtain rfl : u = .ref a := r; exact k
  | ty n => obtain rfl : u = .type n := r; exact k
def oOwn (C : Addr) (c : Con) : R2T := fun x y h Q => match insOf h x, insOf h y with
  | some (C1, _), some (C2, _) => C1 = C ∧ C2 = C ∧ c [x, y] h Q fun _ _ => False
  | _, _ => False
def TyC (K : PySem.W.Frag) (C : Addr) : Prop := ∀ H a dx fs, H a = some (.ins C dx fs) → TyX K H (.ref a) (.ref C)
def oIsiC (K : PySem.W.Frag) : RLT := fun xs h Q => match xs with
  | [x, .ref D] => (∃ k, kdOf h x = some k ∧ PySem.W.kitOne K (.type k.nm) (.ref D) = some false ∧ Q (.bl false) h) ∨ (∃ C gs b, insOf h x = some (C, gs) ∧ TyC K C ∧ PySem.W.kitOne K (.ref C) (.ref D) = some b ∧ Q (.bl b) h)
  | _ => False
theorem c_isiC : CP K (rIsi K) (oIsiC K) := fun S H h vs xs Q Q' m r q pk => by
  unfold oIsiC at q
  split at q
  · cases r with
    | cons r1 rn => cases rn with
      | cons r2 rn =>
        cases rn
        cases r2
        rcases q with ⟨k, e1, e2, q⟩ | ⟨C, gs, b, e1, ty, e2, q⟩
        · exact ⟨_, _, _, _, _, rfl, .own _, kd_ty m r1 e1, e2, pk S H h _ _ Fut.refl m (.bl _) q⟩
        · obtain ⟨a, dx, fs, rfl, ea, _⟩ := insOf_ok m r1 e1
          exact ⟨_, _, _, _, _, rfl, .own _, ty H a dx fs ea, e2, pk S H h _ _ Fut.refl m (.bl _) q⟩
  · exact q.elim
end
end TL

namespace TL
open PySem L2
section
variable {prog : Program} {w : World} {A : Around} {E : Value → Shared → Prop} {s : Shared} {K : PySem.W.Frag} {x C f : Addr} {ox : Obj} {od : Option Obj} {b tb : Value}
end
section
variable {X : Cx} {K : PySem.W.Frag} {C : Addr}
end
end TL

namespace TL
open PySem L2
section
variable {X : Cx} {W : WX} {K : PySem.W.Frag} {C : Addr}
end
end TL

namespace TL
open PySem PySem.Spec L2 PyProof.Rows
theorem turn_long {P : Program} {w : World} {K : PySem.W.Frag} {tg : Expr} (it : Addr) (lo : Int) (n : Nat) : Turn P w K tg (Itr lo n) [it] it (fun i h => IsLongIter h it (lo + (i : Nat) * 1) ((n : Int) - (i : Nat)) 1) where
  mem := by simp
  obj := fun i h st b hb => by
    have e : b = it := by simpa using hb
    subst e
    exact ⟨_, st, fun v z => by
      have z' : Data.fields _ = Data.cell v := z
      cases z'⟩
  keep := fun i h h' st k => k it (by simp) _ st
  item := by
    intro X hP hw hK hc i pins s σ H E I hf st hg
    subst hP hw hK
    obtain ⟨f0, f1, f2, f3, f4, f5⟩ := hf it (by simp)
    have W := Walks.longrange (prog := X.prog) (w := X.w) (I.ok.hd hc) it lo 1 n
    refine W.item i s _ _ hg st fun v h' tk hv st' kk => ?_
    obtain ⟨t, rfl⟩ := hv
    have I1 : Inv X pins σ H { s with heap := h', toks := tk } := I.turned (fun b o hb e => kk b o (by simpa using hb) e) f0 f1 f3 f4 f5
    refine ⟨_, rfl, go_of (s := { s with heap := h', toks := tk }) (n := "longrange_iterator") st' rfl rfl (by decide) ⟨.int (lo + i), H, I1, ⟨t, ?_⟩, ⟨rfl, rfl⟩, st', fun b hb => (hf b hb).1⟩⟩
    rw [Int.mul_one]
  done := by
    intro X hP hw hK hc i pins s σ H E I hf st hg
    subst hP hw hK
    obtain ⟨f0, f1, f2, f3, f4, f5⟩ := hf it (by simp)
    exact wpAny_pyNext_long_end (I.ok.hd hc) st (by have : n ≤ i := hg; omega) fun h' eb => ⟨rfl, I.turned (t' := s.toks) (fun b o hb e => eb b o hb e) f0 f1 f3 f4 f5⟩
  self := fun _ _ _ _ _ st h => wpAny_pyIter_longiter st h
section
variable {X : Cx} {W : WX} {tg : Expr}
theorem range_itW {pins : List (Addr × Obj)} {σ : L2.St} {H : Hp} {s : Shared} {R : It → Hp → Prop} {E : Value → Shared → Prop} {lo hi : Int} {t u v : Tok} {tk : Nat} (I : Inv X pins σ H s)
    (q : R (Itr lo (hi - lo).toNat) H) : wpAny (model X.prog X.w) X.A (pyIter (.ref s.heap.objs.size)) (PIE X pins σ tg R) E { s with heap := s.heap.push { cls := .type "range", data := .fields #[.int lo t, .int hi u, .int 1 v] }, toks := tk } := by
  have I1 : Inv X pins σ H { s with heap := s.heap.push { cls := .type "range", data := .fields #[.int lo t, .int hi u, .int 1 v] }, toks := tk } := I.kept fun b o e => Heap.get?_push_of_some _ e
  have e1 : lo + ((0 : Nat) : Int) * 1 = lo := by simp
  have e2 : (((hi - lo).toNat : Nat) : Int) - ((0 : Nat) : Int) = Builtin.Range.rangeSize lo hi 1 := by rw [rangeSize_one]; split <;> omega
  cases sm : Builtin.Range.small lo hi 1 with
  | true =>
    refine wpAny_pyIter_range (IsRange.new ..) sm ?_
    refine ⟨(s.heap.push { cls := .type "range", data := .fields #[.int lo t, .int hi u, .int 1 v] }).objs.size, [(s.heap.push { cls := .type "range", data := .fields #[.int lo t, .int hi u, .int 1 v] }).objs.size], _, _, H, rfl,
      I1.kept (t' := tk) fun b o e => Heap.get?_push_of_some _ e, turn_range _ lo (hi - lo).toNat, ?_, fun b hb => ?_, q⟩
    · show IsRangeIter _ _ (lo + ((0 : Nat) : Int) * 1) ((((hi - lo).toNat : Nat) : Int) - ((0 : Nat) : Int)) 1
      rw [e1, e2]
      exact Heap.get?_push_size _ rfl
    · have e : b = (s.heap.push { cls := .type "range", data := .fields #[.int lo t, .int hi u, .int 1 v] }).objs.size := by simpa using hb
      subst e
      exact I1.fpOk (Nat.le_refl _) (I1.hok.fresh (Nat.le_refl _))
  | false =>
    refine wpAny_pyIter_longrange (IsRange.new ..) sm ?_
    refine ⟨(s.heap.push { cls := .type "range", data := .fields #[.int lo t, .int hi u, .int 1 v] }).objs.size, [(s.heap.push { cls := .type "range", data := .fields #[.int lo t, .int hi u, .int 1 v] }).objs.size], _, _, H, rfl,
      I1.kept (t' := tk) fun b o e => Heap.get?_push_of_some _ e, turn_long _ lo (hi - lo).toNat, ?_, fun b hb => ?_, q⟩
    · show IsLongIter _ _ (lo + ((0 : Nat) : Int) * 1) ((((hi - lo).toNat : Nat) : Int) - ((0 : Nat) : Int)) 1
      rw [e1, e2]
      exact Heap.get?_push_size _ rfl
    · have e : b = (s.heap.push { cls := .type "range", data := .fields #[.int lo t, .int hi u, .int 1 v] }).objs.size := by simpa using hb
      subst e
      exact I1.fpOk (Nat.le_refl _) (I1.hok.fresh (Nat.le_refl _))
def iRngW (ta : TA) : TI := fun σ H R => ta σ H fun vs H1 => ∃ i j : Int, vs = [.int i, .int j] ∧ R (Itr i (j - i).toNat) H1
theorem pi_rangeW {a b : Expr} {ta : TA} {p pos : Pos} (hg : Gl X "range") (hm : X.mg "range" = none) (ha : PA X [a, b] ta) (hs : starEach [a, b] X.env = [(false, eval a X.env), (false, eval b X.env)] := by rfl) (hs2 : starEach [b] X.env = [(false, eval b X.env)] := by rfl) :
    PI X tg (.Call (.Name "range" p) [a, b] [] pos) (iRngW ta) := by
  refine ⟨fun pins s σ H R I h => ?_⟩
  refine Call_ (ld_blt I hg hm boot_range (PyProof.Rows.callWith_type1 (thn (ha.run pos pins s σ H _ I h) fun us s1 ⟨vs, H1, I1, r1, q1⟩ => ?_) (by rw [hs, hs2]) (by rw [hs2]; rfl)))
  obtain ⟨i, j, e, q⟩ := q1
  subst e
  cases r1 with
  | cons r rr =>
    cases rr with
    | cons r' rr =>
      cases rr
      obtain ⟨t, rfl⟩ := r
      obtain ⟨t', rfl⟩ := r'
      exact call_range_2 (range_itW I1 q)
def iRangeW (a : AM) : IM := fun s h Q E => a s h (fun ts h1 => match ts with
  | [.int i, .int j] => Q (rng i (j - i).toNat) (fun _ => True) h1
  | _ => False) E
theorem ji_rangeW {e e2 : Expr} {a : AM} {p pos : Pos} (hg : Gl X "range") (hm : X.mg "range" = none) (ha : JA X W [e, e2] a) (hs : starEach [e, e2] X.env = [(false, eval e X.env), (false, eval e2 X.env)] := by rfl) (hs2 : starEach [e2] X.env = [(false, eval e2 X.env)] := by rfl) :
    JI X W tg (.Call (.Name "range" p) [e, e2] [] pos) (iRangeW a) := PI.wk (pi_rangeW hg hm ha hs hs2) fun σ H R ⟨S, h, s, Q, E, m, rs, lk, hm, pk⟩ =>
  ⟨S, h, s, _, E, m, rs, lk, hm, fun S1 H1 h1 vs ts f1 m1 r1 q1 => by
    split at q1
    · cases r1 with
      | cons ra rn => cases rn with
        | cons rb rn =>
          cases rn; cases ra; cases rb
          exact ⟨_, _, rfl, pk S1 H1 h1 _ _ _ f1 m1 rng_it q1⟩
    · exact q1.elim⟩
end
end TL

namespace TL
open PySem PySem.Spec PySem.Calls L2 PyProof.Rows
section
variable {X : Cx} {W : WX} {K : PySem.W.Frag} {C : Addr}
structure PropSet (K : PySem.W.Frag) (C : Addr) (f : Str) (p g : Addr) : Prop where
  tk : PySem.W.takerIn K C f = some (some (.ref p))
  ty : PySem.W.typeIn K (.ref p) = some (.type "property")
  rc : ∃ a rest, PySem.W.recIn K p "property" = some (a :: .ref g :: rest)
def sPropT (C : Addr) (c : Con) (mo mv : EM) : SM := fun D s h => mv s h (fun y h1 => mo s h1 (fun x h2 => match insOf h2 x with
  | some (C', _) => C' = C ∧ c [x, y] h2 (fun _ h3 => D.nx s h3) fun z h3 => D.ex z s h3
  | none => False) D.ex) D.ex
structure StM (K : PySem.W.Frag) (C : Addr) (m : Str) (f : Addr) : Prop where
  rd : ∃ mc p rest, PySem.W.typeIn K (.ref C) = some mc ∧ PySem.W.readsIn K C mc = true ∧ PySem.W.findCls K (.ref C) mc m = some (.get (.builtin "staticmethod.__get__") (.ref p) .none (.ref C)) ∧ PySem.W.recIn K p "staticmethod" = some (.ref f :: rest)
  ga : PySem.W.specialIn K (.ref C) "__getattribute__" = some (some (.builtin "type.__getattribute__"))
  kp : PySem.W.keepIn K (.ref f) = true
theorem run_own {CX : CXT} {k : Nat} {f a dx : Addr} {fs : List (Str × V)} {fd : FuncData} {ps : List Str} {sp : Sp} {E : XK} {pins : List (Addr × Obj)} {σ : L2.St} {H : Hp} {s : Shared} {Q : VK} {us : List Value} {vs : List V} (hm : Meth X.K C "__call__" f) (hfn : PySem.W.fnIn X.K f = true) (F : FnOk X.prog X.w X.K X.mg X.base CX k f fd ps sp) (hr : Room k X.A) (hb : Binds X.K fd ps []) (hx : PassesAt CX X σ E)
    (I : Inv X pins σ H s) (ea : H a = some (.ins C dx fs)) (r : Vals vs us) (h : sp (.ref a :: vs) H Q E) : wpAny (model X.prog X.w) X.A (call (.ref a) us) (EP X pins σ Q) X.xe s := by
  obtain ⟨od, J⟩ := instAt I ea
  have r2 : Vals (.ref a :: vs) (.ref a :: us) := .cons rfl r
  have hl : (Value.ref a :: us).length = ps.length := by rw [← r2.length]; exact F.len _ _ _ _ h
  have b := hb s (.ref a :: us) I.kIn (by rw [List.append_nil]; exact hl)
  rw [List.append_nil] at b
  refine wpAny_call (PySem.W.kco_code I.kIn J rfl hm.at_ hm.fn hfn (codeAny_mono (F.run X.A X.stack s H ⟨.ref a :: us, []⟩ (.ref a :: us) (.ref a :: vs) Q E hr I.env0 b r2 h) fun r s' hq => ?_))
  cases r with
  | error e => exact hx pins H s e s' I hq
  | ok fl =>
    cases fl with
    | ret u => exact I.after hq
    | next => exact False.elim hq
    | brk => exact False.elim hq
    | cont => exact False.elim hq
def eOwnCall (C : Addr) (n : Nat) (c : Con) (mo : EM) (ma : AM) : EM := fun s h Q E => mo s h (fun x h1 => (insOf h1 x).isSome = true ∧ ma s h1 (fun ts h2 => match insOf h2 x with
  | some (C', _) => C' = C ∧ ts.length + 1 = n ∧ c (x :: ts) h2 Q fun y h3 => E y s h3
  | none => False) E) E
end
end TL

namespace TL
open PySem L2
def kT : Key → T
  | .inl i => .int i
  | .inr x => .str x
section
variable {X : Cx} {W : WX} {K : PySem.W.Frag} {S : Fz} {H : Hp} {h : Hq}
theorem kT_rep (k : Key) : Rep K S H (kV k) (kT k) := by
  cases k with
  | inl i => exact .int i
  | inr x => exact .str x
theorem RepD.get {κ : Type} [DecidableEq κ] {kvs : List (κ × V)} {gs : List (κ × T)} (r : RepD K S H kvs gs) {i : Nat} {k : κ} {t : T} (e : gs[i]? = some (k, t)) : ∃ v, kvs[i]? = some (k, v) ∧ Rep K S H v t := by
  obtain ⟨h1, h2⟩ := r
  have e2 : (gs.map (·.2))[i]? = some t := by rw [List.getElem?_map, e]; rfl
  have e1 : (gs.map (·.1))[i]? = some k := by rw [List.getElem?_map, e]; rfl
  obtain ⟨v, ev, rv⟩ := h2.get e2
  rw [← h1] at e1
  rw [List.getElem?_map] at ev e1
  cases z : kvs[i]? with
  | none => rw [z] at ev; cases ev
  | some q =>
    rw [z] at ev e1
    cases ev; cases e1
    exact ⟨_, rfl, rv⟩
theorem js_dput {o i e : Expr} {mo mi mv : EM} {pos pos' : Pos} (hu : X.A.units + 1 < cLine) (ho : JE X W o mo) (hi : JE X W i mi) (hv : JE X W e mv) (hs : swapsWith e (some (.Subscript o i pos')) pos.line X.env = pure false := by rfl) :
    JS X W (.Assign [.Subscript o i pos'] e pos) (sDPutT mo mi mv) := PS.wk (ps_dput hu ho hi hv hs) fun D' σ H ⟨S, h, s, D, m, rs, lk, hm⟩ =>
  ⟨S, h, s, _, D.ex, m, rs, lk.ex, hm, fun S1 H1 h1 v t f1 m1 r1 q1 => ⟨S1, h1, s, _, D.ex, m1, rs.fut f1, lk.ex.fut f1, q1, fun S2 H2 h2 x tx f2 m2 r2 q2 => ⟨S2, h2, s, _, D.ex, m2, rs.fut (f1.trans f2), lk.ex.fut (f1.trans f2), q2, fun S3 H3 h3 y ty f3 m3 r3 q3 => by
    split at q3
    · split at q3
      · obtain ⟨hl, q3⟩ := q3
        split at q3
        · rename_i p _ gs e _ k ek
          cases r2
          rw [keyT_ok r3 ek]
          obtain ⟨kvs, e1, r⟩ := ref_dK m3 e
          have f4 : Fut S3 H3 S3 (upd H3 p (.dK (putK kvs k v))) := fut_upd (m3.nS' e)
          exact ⟨p, _, rfl, DPut.k e1 (lim_lt (by rw [r.length]; exact Nat.le_of_lt hl)), lk.nx S3 _ _ σ s (((f1.trans f2).trans f3).trans f4) (m3.write (o' := .dK (putD gs k t)) e ⟨_, rfl, r.put (r1.fut (f2.trans f3))⟩) (rs.fut (((f1.trans f2).trans f3).trans f4)) q3⟩
        · exact q3.elim
      · exact q3.elim
    · exact q3.elim⟩⟩⟩
def sLk (m : SM) : SM := fun D s h => ∃ p gs, h p = some (.dK gs) ∧ ∀ u : HO, m { nx := fun s' h' => h' p = some (.dL u gs) ∧ D.nx s' (put h' p (.dK gs)), rt := fun v h' => h' p = some (.dL u gs) ∧ D.rt v (put h' p (.dK gs)), bk := fun s' h' => h' p = some (.dL u gs) ∧ D.bk s' (put h' p (.dK gs)), ct := fun s' h' => h' p = some (.dL u gs) ∧ D.ct s' (put h' p (.dK gs)), ex := D.ex } s (put h p (.dL u gs))
theorem unlock_ok {S1 : Fz} {H1 : Hp} {h1 : Hq} {p : Addr} {od : Obj} {kvs : List (Key × V)} {gs : List (Key × T)} (m1 : Sim K S1 H1 h1) (n : ¬ S.has p) (f : Fut S (upd H p (.frz od (.dK kvs))) S1 H1) (q1 : h1 p = some (.dL (.frz od (.dK kvs)) gs)) :
    H1 p = some (.frz od (.dK kvs)) ∧ Sim K S1 (upd H1 p (.dK kvs)) (put h1 p (.dK gs)) ∧ Fut S H S1 (upd H1 p (.dK kvs)) ∧ Fut S1 H1 S1 (upd H1 p (.dK kvs)) := by
  obtain ⟨u, e2, e3, o, kv2, e4, r2⟩ := m1.ob p _ q1
  subst e3
  cases e4
  have f2 : Fut S1 H1 S1 (upd H1 p (.dK kvs)) := fut_upd (m1.nS' q1)
  exact ⟨e2, m1.write (o' := .dK gs) q1 ⟨kvs, rfl, r2⟩, ((fut_upd n).trans f).trans f2, f2⟩
theorem js_lk {st : Stmt} {m : SM} (j : JS X W st m) : JS X W st (sLk m) := PS.wk (ps_lock j) fun D' σ H ⟨S, h, s, D, m, rs, lk, ⟨p, gs, e, hm⟩⟩ => by
  obtain ⟨kvs, e1, r⟩ := ref_dK m e
  have n := m.nS' e
  refine ⟨p, .dK kvs, e1, trivial, fun od => ⟨S, _, s, _, m.write (o' := .dL (.frz od (.dK kvs)) gs) e ⟨rfl, od, kvs, rfl, r⟩, rs.fut (fut_upd n), ?_, hm _⟩⟩
  refine ⟨fun S1 H1 h1 σ1 s1 f1 m1 r1 ⟨q1, q2⟩ => ?_, fun S1 H1 h1 v1 t1 f1 m1 r1 ⟨q1, q2⟩ => ?_, fun S1 H1 h1 σ1 s1 f1 m1 r1 ⟨q1, q2⟩ => ?_, fun S1 H1 h1 σ1 s1 f1 m1 r1 ⟨q1, q2⟩ => ?_, lk.ex.fut (fut_upd n)⟩
  · obtain ⟨a1, a2, a3, a4⟩ := unlock_ok m1 n f1 q1
    exact ⟨a1, lk.nx S1 _ _ σ1 s1 a3 a2 (r1.fut a4) q2⟩
  · obtain ⟨a1, a2, a3, a4⟩ := unlock_ok m1 n f1 q1
    exact ⟨a1, lk.rt S1 _ _ v1 t1 a3 a2 (r1.fut a4) q2⟩
  · obtain ⟨a1, a2, a3, a4⟩ := unlock_ok m1 n f1 q1
    exact ⟨a1, lk.bk S1 _ _ σ1 s1 a3 a2 (r1.fut a4) q2⟩
  · obtain ⟨a1, a2, a3, a4⟩ := unlock_ok m1 n f1 q1
    exact ⟨a1, lk.ct S1 _ _ σ1 s1 a3 a2 (r1.fut a4) q2⟩
def eLk (m : EM) : EM := fun s h Q E => ∃ p gs, h p = some (.dK gs) ∧ ∀ u : HO, m s (put h p (.dL u gs)) (fun v h' => h' p = some (.dL u gs) ∧ Q v (put h' p (.dK gs))) E
def keysT (gs : List (Key × T)) : List T := gs.map fun q => kT q.1
def itemsT (gs : List (Key × T)) : List T := gs.map fun q => T.tup [kT q.1, q.2]
def iDict (f : List (Key × T) → List T) (a : EM) : IM := fun s h Q E => a s h (fun x h1 => match x with
  | .ref p => match h1 p with
    | some (.dL u gs) => Q (f gs) (fun h2 => h2 p = some (.dL u gs)) h1
    | _ => False
  | _ => False) E
theorem lock_at {S1 : Fz} {H1 : Hp} {h1 : Hq} {p : Addr} {o : Obj} {kvs : List (Key × V)} {gs : List (Key × T)} (m1 : Sim K S1 H1 h1) (st : h1 p = some (.dL (.frz o (.dK kvs)) gs)) : H1 p = some (.frz o (.dK kvs)) ∧ RepD K S1 H1 kvs gs := by
  obtain ⟨u, e1, e0, o', kv2, e2, r⟩ := m1.ob p _ st
  subst e0
  cases e2
  exact ⟨e1, r⟩
theorem items_it {p : Addr} {o : Obj} {kvs : List (Key × V)} {gs : List (Key × T)} : ItRep K S H (Iti p o kvs) (itemsT gs) (fun h2 => h2 p = some (.dL (.frz o (.dK kvs)) gs)) := fun S1 H1 h1 f1 m1 st => by
  obtain ⟨e1, r⟩ := lock_at m1 st
  refine ⟨fun i t e => ?_, ⟨e1, by unfold itemsT; rw [List.length_map, r.length]; exact Nat.le_refl _⟩⟩
  unfold itemsT at e
  rw [List.getElem?_map] at e
  cases z : gs[i]? with
  | none => rw [z] at e; cases e
  | some q =>
    rw [z] at e
    cases e
    obtain ⟨k, t⟩ := q
    obtain ⟨v, ev, rv⟩ := r.get z
    refine ⟨⟨e1, (List.getElem?_eq_some_iff.mp ev).1⟩, fun x H2 y => ?_⟩
    obtain ⟨Tt, k', v', ek, rfl, nT, rfl⟩ := y
    rw [ev] at ek
    cases ek
    obtain ⟨m2, f2⟩ := m1.frozen (u := .tup [kV k, v]) nT
    exact ⟨_, f2, m2, .tup (.inr rfl) upd_same (.cons (kT_rep k) (.cons (rv.fut f2) .nil))⟩
theorem ji_items {elts : List Expr} {kk : Nat} {tpos : Pos} {e : Expr} {a : EM} {apos cpos : Pos} (ha : JE X W e a) (hbase : attributeBase e "items" X.env (eval e X.env) = eval e X.env := by rfl) (hline : (apos.endLine == cpos.line) = true := by rfl) : JI X W (.Tuple elts kk tpos) (.Call (.Attribute e "items" apos) [] [] cpos) (iDict itemsT a) := PI.wk (pi_items ha hbase hline) fun σ H R ⟨S, h, s, Q, E, m, rs, lk, hm, pk⟩ =>
  ⟨S, h, s, _, E, m, rs, lk, hm, fun S1 H1 h1 v x f1 m1 r1 q1 => by
    split at q1
    · split at q1
      · rename_i p _ u gs e
        cases r1
        obtain ⟨w, e1, e0, o, kvs, e2, r⟩ := m1.ob p _ e
        subst e0
        subst e2
        exact ⟨p, o, kvs, rfl, e1, pk S1 H1 h1 _ _ _ f1 m1 items_it q1⟩
      · exact q1.elim
    · exact q1.elim⟩
def oDict : RLT := fun xs h Q => match xs with
  | [.ref p] => match dOf (h p) with
    | some gs => ∀ q, h q = none → Q (.ref q) (put h q (.dK gs))
    | none => False
  | _ => False
def eDGet2 (a b c : EM) : EM := fun s h Q E => a s h (fun x h1 => match x with
  | .ref p => (dOf (h1 p)).isSome = true ∧ b s h1 (fun y h2 => c s h2 (fun z h3 => match dOf (h3 p) with
    | some gs => match keyT y with
      | some k => Q ((valT gs k).getD z) h3
      | none => False
    | none => False) E) E
  | _ => False) E
def mPairs : List (EM × EM) → Sl → Hq → (List (T × T) → Hq → Prop) → EX → Prop
  | [], _, h, Q, _ => Q [] h
  | (a, b) :: r, s, h, Q, E => a s h (fun x h1 => b s h1 (fun y h2 => mPairs r s h2 (fun ps h3 => Q ((x, y) :: ps) h3) E) E) E
def keyTs : List (T × T) → Option (List (Key × T))
  | [] => some []
  | (x, y) :: r => match keyT x, keyTs r with
    | some k, some kvs => some ((k, y) :: kvs)
    | _, _ => none
def mergeD (gs more : List (Key × T)) : List (Key × T) := more.foldl (fun acc kv => putD acc kv.1 kv.2) gs
inductive RepP (K : PySem.W.Frag) (S : Fz) (H : Hp) : List (V × V) → List (T × T) → Prop
  | nil : RepP K S H [] []
  | cons {v w : V} {x y : T} {ps : List (V × V)} {xs : List (T × T)} : Rep K S H v x → Rep K S H w y → RepP K S H ps xs → RepP K S H ((v, w) :: ps) ((x, y) :: xs)
def eDisp (ms : List (EM × EM)) : EM := fun s h Q E => ∀ p, h p = none → mPairs ms s (put h p (.dK [])) (fun xs h2 => h2 p = some (.dK []) ∧ ∃ gs, keyTs xs = some gs ∧ gs.length ≤ 15 ∧ Q (.ref p) (put h2 p (.dK (mergeD [] gs)))) E
def eLstR2 (fl : Bool) (a b : EM) : EM := fun s h Q E => a s h (fun x h1 => b s h1 (fun y h2 => match x, y with
  | .int i, .int j => (-1000000 ≤ i ∧ i ≤ 1000000 ∧ -1000000 ≤ j ∧ j ≤ 1000000) ∧ mk fl (rng i (j - i).toNat) h2 Q
  | _, _ => False) E) E
def oListD (fl : Bool) : RLT := fun xs h Q => match xs with
  | [.ref p] => match dOf (h p) with
    | some gs => mk fl (keysT gs) h Q
    | none => False
  | _ => False
end
end TL

set_option maxHeartbeats 1000000
namespace TL
open PySem PySem.Spec PySem.Calls PyProof.Rows L2
section
variable {P : Program} {w : World} {A : Around} {s : Shared} {f c' t : Addr} {q x : Str} {params : Arguments} {scope : Scope} {cl : List (Str × Addr)} {pm ctv : Value} {p1 p2 p3 p4 p5 : Pos} {kk : Nat} {mg mb : Str → Option Value} {its : Array Value} {i : Int} {tk : Tok}
end
section
variable {X : Cx} {pins : List (Addr × Obj)} {σ : L2.St} {H : Hp} {s : Shared} {c P : Addr} {params : Arguments} {body : Expr} {scope : Scope} {pos : Pos} {E : Value → Shared → Prop} {Q : Value → Shared → Prop}
end
section
variable {X : Cx} {W : WX} {c P : Addr} {params : Arguments} {scope : Scope} {e : Expr} {te : TE} {x : Str} {p pos lpos kpos p1 p2 p3 p4 p5 : Pos} {kk : Nat}
end
section
variable {K : PySem.W.Frag} {S : Fz} {H : Hp} {h : Hq}
end
section
variable {X : Cx} {W : WX} {c P : Addr} {params : Arguments} {scope : Scope} {e : Expr} {m : EM} {x : Str} {p pos lpos kpos p1 p2 p3 p4 p5 : Pos} {kk : Nat}
end
structure FunC (K : PySem.W.Frag) (x qual : Str) (st : Stmt) (f : Addr) (fd : FuncData) (c : Addr) : Prop where
  ex : ∃ (oc : Value) (od : Option Addr) (kV doc pm : Value) (an : Option Addr) (ct : Value) (osl : Array (Option Value)),
    fd = PySem.W.fnOf x qual (defArgs st) (defBody st) (defScope st) .none kV doc pm an (.ref c) ct ∧ K.lookup f = some ⟨oc, od, .func fd, osl⟩ ∧ PySem.W.codeIn K (.ref c) qual = true
end TL

namespace TL
open PySem L2 PySem.W
section
variable {prog : Program} {w : World} {A : Around} {E : Value → Shared → Prop} {s : Shared} {K : Frag} {x t C f : Addr} {ox : Obj} {od : Option Obj} {op : Operator} {Q : Value → Shared → Prop}
end
section
variable {X : Cx} {W : WX} {K : PySem.W.Frag} {C : Addr}
end
end TL

namespace TL
open PySem PySem.Spec PySem.Calls PyProof.Rows L2
section
variable {prog : Program} {w : World} {A : Around} {E : Value → Shared → Prop} {s : Shared}
end
section
variable {X : Cx} {e : Expr} {te : TE}
end
structure GnE where
  nx : List T → SK
  rt : List T → TK := fun _ _ _ => False
  bk : List T → SK := fun _ _ _ => False
  ct : List T → SK := fun _ _ _ => False
  ex : EX
structure LkG (K : PySem.W.Frag) (W : WX) (S : Fz) (H : Hp) (D : GnE) (D' : GEnds) : Prop where
  nx : ∀ S1 H1 h1 σ s vs ts, Fut S H S1 H1 → Sim K S1 H1 h1 → RepS K S1 H1 σ s → RepL K S1 H1 vs ts → D.nx ts s h1 → D'.nx vs σ H1
  rt : ∀ S1 H1 h1 v u vs ts, Fut S H S1 H1 → Sim K S1 H1 h1 → Rep K S1 H1 v u → RepL K S1 H1 vs ts → D.rt ts u h1 → D'.rt vs v H1
  bk : ∀ S1 H1 h1 σ s vs ts, Fut S H S1 H1 → Sim K S1 H1 h1 → RepS K S1 H1 σ s → RepL K S1 H1 vs ts → D.bk ts s h1 → D'.bk vs σ H1
  ct : ∀ S1 H1 h1 σ s vs ts, Fut S H S1 H1 → Sim K S1 H1 h1 → RepS K S1 H1 σ s → RepL K S1 H1 vs ts → D.ct ts s h1 → D'.ct vs σ H1
  ex : LkX K W S H D.ex
theorem GSs.wk {X : Cx} {st : List Stmt} {t t' : TGn} (h : GSs X st t) (k : ∀ D ys σ H, t' D ys σ H → t D ys σ H) : GSs X st t' := ⟨fun A S ip R n ys s₀ c fs K J gd lv s σ H D g hn gk gi q => h.run A S ip R n ys s₀ c fs K J gd lv s σ H D g hn gk gi (k _ _ _ _ q)⟩
theorem GS.wk {X : Cx} {st : Stmt} {t t' : TGn} (h : GS X st t) (k : ∀ D ys σ H, t' D ys σ H → t D ys σ H) : GS X st t' := ⟨fun A S ip R n ys s₀ c fs K J gd lv s σ H D g hn gk gi q => h.run A S ip R n ys s₀ c fs K J gd lv s σ H D g hn gk gi (k _ _ _ _ q)⟩
section
variable {X : Cx} {W : WX} {st : Stmt} {rest : List Stmt}
theorem LkG.fut {K : PySem.W.Frag} {S S1 : Fz} {H H1 : Hp} {D : GnE} {D' : GEnds} (l : LkG K W S H D D') (f : Fut S H S1 H1) : LkG K W S1 H1 D D' where
  nx := fun S2 H2 h2 σ s vs ts f2 => l.nx S2 H2 h2 σ s vs ts (f.trans f2)
  rt := fun S2 H2 h2 v u vs ts f2 => l.rt S2 H2 h2 v u vs ts (f.trans f2)
  bk := fun S2 H2 h2 σ s vs ts f2 => l.bk S2 H2 h2 σ s vs ts (f.trans f2)
  ct := fun S2 H2 h2 σ s vs ts f2 => l.ct S2 H2 h2 σ s vs ts (f.trans f2)
  ex := l.ex.fut f
theorem RepL.app {K : PySem.W.Frag} {S : Fz} {H : Hp} : ∀ {vs vs' : List V} {ts ts' : List T}, RepL K S H vs ts → RepL K S H vs' ts' → RepL K S H (vs ++ vs') (ts ++ ts')
  | _, _, _, _, .nil, r => r
  | _, _, _, _, .cons a b, r => .cons a (RepL.app b r)
end
section
variable {X : Cx} {W : WX} {C : Addr}
end
def strsOf : List T → Option (List Str)
  | [] => some []
  | .str x :: ts => match strsOf ts with
    | some zs => some (x :: zs)
    | none => none
  | _ => none
theorem strsOf_ok {K : PySem.W.Frag} {S : Fz} {H : Hp} : ∀ {vs : List V} {ts : List T} {zs : List Str}, RepL K S H vs ts → strsOf ts = some zs → vs = zs.map V.str
  | _, [], _, r, e => by cases r; cases e; rfl
  | _, t :: ts, zs, r, e => by
    cases r with
    | cons r1 rn =>
      cases t with
      | str x =>
        unfold strsOf at e
        split at e
        · rename_i us eu
          cases e
          cases r1
          rw [strsOf_ok rn eu]
          rfl
        · cases e
      | _ => cases e
def oInS (neg : Bool) : R2T := fun x y h Q => match x, y with
  | .str z, .tup ts => match strsOf ts with
    | some zs => Q (.bl (if neg then !(zs.any (· == z)) else zs.any (· == z))) h
    | none => False
  | _, _ => False
theorem p_inS {K : PySem.W.Frag} {neg : Bool} : OP K (rIn K neg) (oInS neg) := fun S H h v w x y Q Q' m r1 r2 q pk => by
  unfold oInS at q
  split at q
  · rename_i z ts
    split at q
    · rename_i zs ez
      cases r1
      have fin : ∀ {b : Addr} {xs : List V}, SqT K H b xs → RepL K S H xs ts → rIn K neg (.str z) (.ref b) H Q' := fun {b xs} hb rl => by
        have e := strsOf_ok rl ez
        subst e
        refine ⟨b, _, rfl, .inr hb, rfl, ?_, pk S H h _ _ Fut.refl m (.bl _) ?_⟩
        · rw [List.all_eq_true]
          intro u hu
          obtain ⟨_, _, rfl⟩ := List.mem_map.mp hu
          rfl
        · have e2 : inV (.str z) (zs.map V.str) = zs.any (· == z) := by
            unfold inV
            rw [List.any_map]
            rfl
          rw [e2]
          exact q
      cases r2 with
      | tup s hh rl => exact fin (.inl (.inl hh)) rl
      | tupK hh kx rl => exact fin (.inr hh) rl
    · exact q.elim
  · exact q.elim
end TL

set_option maxHeartbeats 1000000
namespace TL
open PySem L2
end TL

set_option maxHeartbeats 1000000
namespace TL
open PySem L2
def Ev (s : Sl) (h : Hq) (E : EX) (e : EM) (x : T) : Prop := ∀ Q : TK, Q x h → e s h Q E
def Ef (s : Sl) (h : Hq) (E : EX) (b : Bool) (t : TM) : Prop := ∀ Q : Bool → Hq → Prop, Q b h → t s h Q E
def Ea (s : Sl) (h : Hq) (E : EX) (m : AM) (xs : List T) : Prop := ∀ Q : List T → Hq → Prop, Q xs h → m s h Q E
section
variable {s : Sl} {h : Hq} {E : EX}
theorem ev_var {i : Nat} {x : T} (hi : s[i]? = some (some x)) : Ev s h E (eVar i) x := fun Q q => by unfold eVar; rw [hi]; exact q
theorem ev_c {x : T} : Ev s h E (eC x) x := fun Q q => q
theorem ef_of {e : EM} {b : Bool} (he : Ev s h E e (.bl b)) : Ef s h E b (tOf e) := fun Q q => he _ q
theorem ef_tru {e : EM} {b : Bool} (he : Ev s h E e (.bl b)) : Ef s h E b (tTru e) := fun Q q => he _ q
theorem ef_or {x y : TM} (hx : Ef s h E false x) (hy : Ef s h E false y) : Ef s h E false (tOrM x y) := fun Q q => hx _ (hy _ q)
theorem ef_and1 {x y : TM} (hx : Ef s h E false x) : Ef s h E false (tAndM x y) := fun Q q => hx _ q
theorem ef_and2 {x y : TM} {b : Bool} (hx : Ef s h E true x) (hy : Ef s h E b y) : Ef s h E b (tAndM x y) := fun Q q => hx _ (hy _ q)
theorem ef_not {x : TM} {b : Bool} (hx : Ef s h E b x) : Ef s h E (!b) (tNotM x) := fun Q q => hx _ q
theorem ef_as {x : TM} {b c : Bool} (hx : Ef s h E b x) (e : b = c) : Ef s h E c x := e ▸ hx
theorem ev_as {x : EM} {u v : T} (hx : Ev s h E x u) (e : u = v) : Ev s h E x v := e ▸ hx
theorem if_else {c : TM} {x y : SM} {D : En} {s : Sl} {h : Hq} (hc : Ef s h D.ex false c) (q : y D s h) : sIf c x y D s h := hc _ q
theorem if_yes {c : TM} {x y : SM} {D : En} {s : Sl} {h : Hq} (hc : Ef s h D.ex true c) (q : x D s h) : sIf c x y D s h := hc _ q
theorem if_go {c : TM} {x y : SM} {D : En} {s : Sl} {h : Hq} {b : Bool} (hc : Ef s h D.ex b c) (q1 : b = true → x D s h) (q2 : b = false → y D s h) : sIf c x y D s h := hc _ (by
  cases b with
  | true => exact q1 rfl
  | false => exact q2 rfl)
theorem an_go {Q : List T → Hq → Prop} (q : Q [] h) : aNil s h Q E := q
theorem ac_ev {x : EM} {v : T} {m : AM} {Q : List T → Hq → Prop} (hx : Ev s h E x v) (q : m s h (fun ts h1 => Q (v :: ts) h1) E) : aCons x m s h Q E := hx _ q
theorem ac_any {x : EM} {m : AM} {Q : List T → Hq → Prop} (q : x s h (fun v h1 => m s h1 (fun ts h2 => Q (v :: ts) h2) E) E) : aCons x m s h Q E := q
theorem ea_nil : Ea s h E aNil [] := fun Q q => q
theorem ea_cons {x : EM} {v : T} {m : AM} {vs : List T} (hx : Ev s h E x v) (hm : Ea s h E m vs) : Ea s h E (aCons x m) (v :: vs) := fun Q q => hx _ (hm _ q)
theorem call_go {n : Nat} {c : Con} {m : AM} {Q : TK} (q : m s h (fun ts h1 => ts.length = n ∧ c ts h1 (frzK Q) fun x h2 => E x s h2) E) : eFrz (eCall n c m) s h Q E := q
theorem calls {n : Nat} {c : Con} {m : AM} {Q : TK} {vs : List T} (hm : Ea s h E m vs) (hl : vs.length = n := by rfl) (q : c vs h (frzK Q) fun x h2 => E x s h2) : eFrz (eCall n c m) s h Q E := hm _ ⟨hl, q⟩
theorem ev_andV {x y : EM} {b c : Bool} (hx : Ev s h E x (.bl b)) (hy : Ev s h E y (.bl c)) : Ev s h E (eAndV x y) (.bl (b && c)) := fun Q q => hx _ (by
  cases b
  · exact q
  · exact hy _ q)
theorem ev_andT {x y : EM} {v : T} (hx : Ev s h E x (.bl true)) (hy : Ev s h E y v) : Ev s h E (eAndV x y) v := fun Q q => hx _ (hy _ q)
theorem ev_andF {x y : EM} (hx : Ev s h E x (.bl false)) : Ev s h E (eAndV x y) (.bl false) := fun Q q => hx _ q
theorem ev_orT {x y : EM} (hx : Ev s h E x (.bl true)) : Ev s h E (eOrV x y) (.bl true) := fun Q q => hx _ q
theorem ev_orF {x y : EM} {v : T} (hx : Ev s h E x (.bl false)) (hy : Ev s h E y v) : Ev s h E (eOrV x y) v := fun Q q => hx _ (hy _ q)
theorem ev_notV {x : EM} {b : Bool} (hx : Ev s h E x (.bl b)) : Ev s h E (eNotV x) (.bl (!b)) := fun Q q => hx _ q
theorem ev_ifT {c : TM} {x y : EM} {v : T} (hc : Ef s h E true c) (hx : Ev s h E x v) : Ev s h E (eIf c x y) v := fun Q q => hc _ (hx _ q)
theorem ev_ifF {c : TM} {x y : EM} {v : T} (hc : Ef s h E false c) (hx : Ev s h E y v) : Ev s h E (eIf c x y) v := fun Q q => hc _ (hx _ q)
theorem str_eq (h : Hq) {x y : Str} (hx : PyData.strOk x = true) (hy : PyData.strOk y = true) : depth? (view h (.str x)) = true ∧ depth? (view h (.str y)) = true ∧ eqT (view h (.str x)) (view h (.str y)) = decide (x = y) := by
  refine ⟨dep (n := 1) hx, dep (n := 1) hy, ?_⟩
  show eqT (.str x) (.str y) = _
  rw [eqT_str hx hy]
theorem ev_str {x y : Str} {u v : EM} {b : Bool} (hu : Ev s h E u (.str x)) (hv : Ev s h E v (.str y)) (hx : PyData.strOk x = true) (hy : PyData.strOk y = true) (e : decide (x = y) = b) : Ev s h E (eOp oEq u v) (.bl b) := fun Q q => hu _ (hv _ (by
  obtain ⟨a1, a2, a3⟩ := str_eq h hx hy
  refine ⟨a1, a2, ?_⟩
  rw [a3, e]
  exact q))
theorem ev_op {o : R2T} {a b : EM} {x y v : T} (ha : Ev s h E a x) (hb : Ev s h E b y) (ho : ∀ Q : TK, Q v h → o x y h Q) : Ev s h E (eOp o a b) v := fun Q q => ha _ (hb _ (ho Q q))
theorem ev_sub {a b : EM} {i j : Int} (ha : Ev s h E a (.int i)) (hb : Ev s h E b (.int j)) : Ev s h E (eOp oSub a b) (.int (i - j)) := ev_op ha hb fun _ q => q
theorem ev_le {a b : EM} {i j : Int} (ha : Ev s h E a (.int i)) (hb : Ev s h E b (.int j)) : Ev s h E (eOp oLe a b) (.bl (decide (i ≤ j))) := ev_op ha hb fun _ q => q
theorem ev_gt {a b : EM} {i j : Int} (ha : Ev s h E a (.int i)) (hb : Ev s h E b (.int j)) : Ev s h E (eOp oGt a b) (.bl (decide (j < i))) := ev_op ha hb fun _ q => q
theorem ev_ge {a b : EM} {i j : Int} (ha : Ev s h E a (.int i)) (hb : Ev s h E b (.int j)) : Ev s h E (eOp oGe a b) (.bl (decide (j ≤ i))) := ev_op ha hb fun _ q => q
theorem ev_eqI {a b : EM} {i j : Int} (ha : Ev s h E a (.int i)) (hb : Ev s h E b (.int j)) : Ev s h E (eOp oEq a b) (.bl (decide (i = j))) := ev_op ha hb fun _ q => ⟨rfl, rfl, by rw [show view h (.int i) = .int i from rfl, show view h (.int j) = .int j from rfl, eqT_int]; exact q⟩
theorem ev_max {a b : EM} {i j : Int} (ha : Ev s h E a (.int i)) (hb : Ev s h E b (.int j)) : Ev s h E (eCB oMax (aCons a (aCons b aNil))) (.int (if j > i then j else i)) := fun Q q => ha _ (hb _ q)
theorem ev_min {a b : EM} {i j : Int} (ha : Ev s h E a (.int i)) (hb : Ev s h E b (.int j)) : Ev s h E (eCB oMin (aCons a (aCons b aNil))) (.int (if j < i then j else i)) := fun Q q => ha _ (hb _ q)
theorem ev_lstT {m : AM} {vs : List T} (hm : Ea s h E m vs) (l : vs.length ≤ lim) : Ev s h E (eLst true m) (.lst vs) := fun Q q => hm _ ⟨l, by rw [mk_true]; exact q⟩
theorem ev_ixL {a b : EM} {x : T} {ts : List T} {i : Int} {v : T} (ha : Ev s h E a x) (hb : Ev s h E b (.int i)) (el : lsOf h x = some ts) (e : atI ts i = some v) : Ev s h E (eOp oIx a b) v := ev_op ha hb fun Q q => by
  cases x <;> first
    | (cases el; done)
    | skip
  · cases el
    show atK _ i h Q
    unfold atK
    rw [e]
    exact q
  · show (match lsOf h (.ref _) with | some ts => atK ts i h Q | none => False)
    rw [el]
    dsimp only
    unfold atK
    rw [e]
    exact q
theorem ev_repr {a : EM} {x : T} {z : Str} (ha : Ev s h E a x) (e : reprT x = some z) : Ev s h E (eCB oRepr (aCons a aNil)) (.str z) := fun Q q => ha _ (by
  show (match reprT x with | some z => Q (.str z) h | none => False)
  rw [e]
  exact q)
theorem ev_isi {a : EM} {x : T} {n : String} {k c : Kd} (ha : Ev s h E a x) (e1 : kdOf h x = some k) (e2 : kdN n = some c) : Ev s h E (eCB oIsi (aCons a (aCons (eC (.ty n)) aNil))) (.bl (isK k c)) := fun Q q => ha _ (by
  show (match kdOf h x, kdN n with | some k, some c => Q (.bl (isK k c)) h | _, _ => False)
  rw [e1, e2]
  exact q)
theorem ev_neC {a b : EM} {x y : T} {c : Bool} {n : Nat} (ha : Ev s h E a x) (hb : Ev s h E b y) (h1 : cln n (view h x) = true) (h2 : cln n (view h y) = true) (e : c = true ↔ view h x ≠ view h y) (hn : n ≤ 64 := by decide) : Ev s h E (eOp oNe a b) (.bl c) := ev_op ha hb fun Q q => by
  refine ⟨dep (n := n) (cln_dat _ _ h1) hn, dep (n := n) (cln_dat _ _ h2) hn, ?_⟩
  have : (!eqT (view h x) (view h y)) = c := by
    rw [Bool.eq_iff_iff, Bool.not_eq_true', e, ← Bool.not_eq_true]
    exact not_congr (eqT_iff n _ _ h1 h2)
  rw [this]
  exact q
theorem draw_go {i : Nat} {p : Addr} {z : EM} {n : Int} {Q : TK} (hi : s[i]? = some (some (.ref p))) (hz : Ev s h E z (.int n)) (hp : h p = some .pool) (n0 : 0 < n) (n1 : n < 2 ^ 250) (q : ∀ r, 0 ≤ r → r < n → Q (.int r) h) : eFrz (eCall 2 CDraw (aCons (eVar i) (aCons z aNil))) s h Q E :=
  call_go (ac_ev (ev_var hi) (ac_ev hz (show _ ∧ _ from ⟨rfl, p, n, rfl, n0, n1, hp, q⟩)))
end
section
variable {s s' : Sl} {h : Hq} {D : En} {r : SM} {e : EM} {i : Nat} {v : T}
theorem set_go (q : e s h (fun x h1 => r D (s.set i (some x)) h1) D.ex) : sSeq (sAsg e (gN i)) r D s h := q
theorem set_ev (he : Ev s h D.ex e v) (q : r D (s.set i (some v)) h) : sSeq (sAsg e (gN i)) r D s h := he _ q
theorem ret_ev (he : Ev s h D.ex e v) (q : D.rt v h) : sRet e D s h := he _ q
theorem sif_no {c : TM} {x : SM} (hc : Ef s h D.ex false c) (q : r D s h) : sSeq (sIf c x sNext) r D s h := hc _ q
theorem sif_yes {c : TM} {x y : SM} (hc : Ef s h D.ex true c) (q : x { D with nx := r D } s h) : sSeq (sIf c x y) r D s h := hc _ q
theorem app_go {i : Nat} {p : Addr} {ts : List T} {m : EM} {E : EX} {Q : TK} (hi : s[i]? = some (some (.ref p))) (hp : h p = some (.lst ts)) (l : ts.length < lim) (hm : Ev s h E m v) (q : Q .non (put h p (.lst (ts ++ [v])))) : eBM isLs oApp (eVar i) (aCons m aNil) s h Q E := by
  refine ev_var hi _ ⟨?_, hm _ ?_⟩
  · unfold isLs lsOf
    dsimp only
    rw [hp]
    rfl
  · show (match h p with | some (.lst ts) => _ | _ => False)
    rw [hp]
    exact ⟨l, q⟩
theorem frz_lst {Q : TK} {ts : List T} {p : Addr} (np : h p = none) (q : Q (.lst ts) h) : frzK Q (.ref p) (put h p (.lst ts)) := by
  unfold frzK
  dsimp only
  rw [put_same]
  dsimp only
  rw [del_put np]
  exact q
theorem frz_ins {Q : TK} {C : Addr} {gs : List (Str × T)} {p : Addr} (np : h p = none) (q : Q (.ins C gs) h) : frzK Q (.ref p) (put h p (.ins C gs)) := by
  unfold frzK
  dsimp only
  rw [put_same]
  dsimp only
  rw [del_put np]
  exact q
end

def Ei (s : Sl) (h : Hq) (E : EX) (m : IM) (ts : List T) : Prop := ∀ Q : List T → (Hq → Prop) → Hq → Prop, (∀ stay : Hq → Prop, stay h → Q ts stay h) → m s h Q E
def Eq1 (s : Sl) (h : Hq) (E : EX) (m : IM) (ts : List T) : Prop := ∀ Q : List T → (Hq → Prop) → Hq → Prop, Q ts (fun _ => True) h → m s h Q E
section
variable {s : Sl} {h : Hq} {E : EX}
theorem Eq1.ei {m : IM} {ts : List T} (x : Eq1 s h E m ts) : Ei s h E m ts := fun Q q => x Q (q _ trivial)
theorem eq_seq {x : EM} {ts : List T} (hx : Ev s h E x (.lst ts)) : Eq1 s h E (iSeq x) ts := fun Q q => hx _ q
theorem ei_seqR {x : EM} {p : Addr} {ts : List T} (hx : Ev s h E x (.ref p)) (hp : h p = some (.lst ts)) : Ei s h E (iSeq x) ts := fun Q q => hx _ (by
  dsimp only
  rw [hp]
  exact q _ hp)
theorem eq_rng {x : EM} {n : Nat} (hx : Ev s h E x (.int n)) (hn : n ≤ 1000000) : Eq1 s h E (iRange1 (aCons x aNil)) (rng 0 n) := fun Q q => hx _ ⟨by omega, by omega, by rw [Int.toNat_natCast]; exact q⟩
theorem ev_lcM {α : Type} {enc : α → T} {xs : List α} {f : α → T} {src : IM} {g : T → Sl → Option Sl} {el : EM} (hs : Ei s h E src (xs.map enc)) (hl : xs.length ≤ 1000000)
    (he : ∀ x ∈ xs, ∃ s2, g (enc x) s = some s2 ∧ Ev s2 h E0 el (f x)) : Ev s h E (eLc true src g tYes el) (.lst (xs.map f)) := fun Q q => hs _ fun stay st => by
  refine lcK_mA f st hl (fun x hx R r => ?_) (by rw [mk_true]; exact q)
  obtain ⟨s2, e2, h2⟩ := he x hx
  rw [e2]
  exact h2 _ r
theorem forK_map {α : Type} {enc : α → T} {xs : List α} {stay : Hq → Prop} {g : GM} {b : SM} {D : En} {s : Sl} {h : Hq} (I : Nat → SK) (h0 : I 0 s h)
    (hend : ∀ s h, I xs.length s h → stay h ∧ D.nx s h) (hstep : ∀ i x s h, xs[i]? = some x → I i s h → stay h ∧ g (enc x) s h (fun s2 h2 => b { D with nx := I (i + 1), ct := I (i + 1), bk := D.nx } s2 h2) D.ex) : ForK (xs.map enc) stay g b D s h := by
  refine forK_go I h0 (fun s h q => hend s h (by rw [List.length_map] at q; exact q)) fun i t s h e q => ?_
  rw [List.getElem?_map] at e
  cases er : xs[i]? with
  | none => rw [er] at e; cases e
  | some x => rw [er] at e; cases e; exact hstep i x s h er q
theorem forK_rng {lo : Int} {n : Nat} {stay : Hq → Prop} {g : GM} {b : SM} {D : En} {s : Sl} {h : Hq} (I : Nat → SK) (h0 : I 0 s h)
    (hend : ∀ s h, I n s h → stay h ∧ D.nx s h) (hstep : ∀ (i : Nat) s h, i < n → I i s h → stay h ∧ g (.int (lo + i)) s h (fun s2 h2 => b { D with nx := I (i + 1), ct := I (i + 1), bk := D.nx } s2 h2) D.ex) : ForK (rng lo n) stay g b D s h := by
  refine forK_go I h0 (fun s h q => hend s h (by rw [rng_len] at q; exact q)) fun i t s h e q => ?_
  obtain ⟨hi, rfl⟩ := rng_at e
  exact hstep i s h hi q
theorem for_src1 {src : IM} {g : GM} {b : SM} {D : En} {ts : List T} {s : Sl} {h : Hq} (hs : Eq1 s h D.ex src ts) (q : ForK ts (fun _ => True) g b D s h) : sFor src g b D s h := hs _ q
theorem drop_go {e : EM} {r : SM} {D : En} {s : Sl} {h : Hq} (q : e s h (fun _ h1 => r D s h1) D.ex) : sSeq (sDrop e) r D s h := q
end
theorem op_go {o : R2T} {a b : EM} {s : Sl} {h : Hq} {E : EX} {Q : TK} (q : a s h (fun x h1 => b s h1 (fun y h2 => o x y h2 Q) E) E) : eOp o a b s h Q E := q
theorem sfor {src : IM} {g : GM} {b r : SM} {D : En} {ts : List T} {s : Sl} {h : Hq} (hs : Eq1 s h D.ex src ts) (I : Nat → SK) (h0 : I 0 s h) (hend : ∀ s h, I ts.length s h → r D s h)
    (hstep : ∀ i t s h, ts[i]? = some t → I i s h → g t s h (fun s2 h2 => b { nx := I (i + 1), rt := D.rt, bk := r D, ct := I (i + 1), ex := D.ex } s2 h2) D.ex) : sSeq (sFor src g b) r D s h := hs _ (forK_go I h0 (fun s h q => ⟨trivial, hend s h q⟩) fun i t s h e q => ⟨trivial, hstep i t s h e q⟩)
theorem sfor_map {α : Type} {enc : α → T} {src : IM} {g : GM} {b r : SM} {D : En} {xs : List α} {s : Sl} {h : Hq} (hs : Eq1 s h D.ex src (xs.map enc)) (I : Nat → SK) (h0 : I 0 s h) (hend : ∀ s h, I xs.length s h → r D s h)
    (hstep : ∀ i x s h, xs[i]? = some x → I i s h → g (enc x) s h (fun s2 h2 => b { nx := I (i + 1), rt := D.rt, bk := r D, ct := I (i + 1), ex := D.ex } s2 h2) D.ex) : sSeq (sFor src g b) r D s h := hs _ (forK_map I h0 (fun s h q => ⟨trivial, hend s h q⟩) fun i t s h e q => ⟨trivial, hstep i t s h e q⟩)
theorem sfor_rng {lo : Int} {n : Nat} {src : IM} {g : GM} {b r : SM} {D : En} {s : Sl} {h : Hq} (hs : Eq1 s h D.ex src (rng lo n)) (I : Nat → SK) (h0 : I 0 s h) (hend : ∀ s h, I n s h → r D s h)
    (hstep : ∀ (i : Nat) s h, i < n → I i s h → g (.int (lo + i)) s h (fun s2 h2 => b { nx := I (i + 1), rt := D.rt, bk := r D, ct := I (i + 1), ex := D.ex } s2 h2) D.ex) : sSeq (sFor src g b) r D s h := hs _ (forK_rng I h0 (fun s h q => ⟨trivial, hend s h q⟩) fun i s h e q => ⟨trivial, hstep i s h e q⟩)
theorem spar {i j : Nat} {x y : EM} {u v : T} {r : SM} {D : En} {s : Sl} {h : Hq} (hx : Ev s h D.ex x u) (hy : Ev s h D.ex y v) (q : r D ((s.set i (some u)).set j (some v)) h) : sSeq (sPar i j (aCons x (aCons y aNil))) r D s h := hx _ (hy _ q)
theorem spar_go {i j : Nat} {x y : EM} {r : SM} {D : En} {s : Sl} {h : Hq} (q : x s h (fun u h1 => y s h1 (fun v h2 => r D ((s.set i (some u)).set j (some v)) h2) D.ex) D.ex) : sSeq (sPar i j (aCons x (aCons y aNil))) r D s h := q
theorem if_to {N : SK} {rt : TK} {bk ct : SK} {ex : EX} {c : TM} {x : SM} {b : Bool} {s : Sl} {h : Hq} (hc : Ef s h ex b c) (q1 : b = true → x { nx := N, rt := rt, bk := bk, ct := ct, ex := ex } s h) (q2 : b = false → N s h) : sIf c x sNext { nx := N, rt := rt, bk := bk, ct := ct, ex := ex } s h := if_go hc q1 q2
theorem ev_isE {K : PySem.W.Frag} {ea C D : Addr} {ed : Option Addr} {gs : List (Str × T)} {x : EM} {b : Bool} {cl : Value} {s : Sl} {h : Hq} {E : EX} (hx : Ev s h E x (.exc ea cl ed gs)) (hC : ExcC K C) (hk : PySem.W.kitOne K (.ref C) (.ref D) = some b) : Ev s h E (eCB (oIsE K ea (.ref C) ed) (aCons x (aCons (eC (.ref D)) aNil))) (.bl b) := fun Q q => hx _ ⟨rfl, rfl, C, b, rfl, hC, hk, q⟩
theorem ev_xf {K : PySem.W.Frag} {ea C : Addr} {ed : Option Addr} {gs : List (Str × T)} {x : EM} {f : Str} {t : T} {cl : Value} {s : Sl} {h : Hq} {E : EX} (hx : Ev s h E x (.exc ea cl ed gs)) (hC : XfC K C) (hn : PySem.W.findIn K (.ref C) f = some none) (hl : gs.lookup f = some t) : Ev s h E (eXf K ea (.ref C) ed f x) t := fun Q q => ⟨C, hC, hn, rfl, hx _ ⟨rfl, rfl, by rw [hl]; exact q⟩⟩
theorem ex_try {K : PySem.W.Frag} {c : Value} {i : Nat} {ms : Addr → Value → Option Addr → SM} {D : En} {x : Ex} {s : Sl} {h : Hq} (hm : PySem.W.exmOne K x.cls c = some true) (q : ∀ a d, h a = none → ms a x.cls d { nx := fun s' h' => D.nx (s'.set i none) h', rt := D.rt, bk := fun s' h' => D.bk (s'.set i none) h', ct := fun s' h' => D.ct (s'.set i none) h' } (s.set i (some (.exc a x.cls d x.fs))) h) : exTry K c i ms D x s h := ⟨true, hm, fun _ => q, fun z => nomatch z⟩
theorem stry_go {K : PySem.W.Frag} {c : Value} {i : Nat} {b r : SM} {ms : Addr → Value → Option Addr → SM} {D : En} {s : Sl} {h : Hq} (q : b { nx := r D, rt := D.rt, bk := D.bk, ct := D.ct, ex := exTry K c i ms { D with nx := r D } } s h) : sSeq (sTry K c i b ms) r D s h := q
theorem ret_go {e : EM} {D : En} {s : Sl} {h : Hq} (q : e s h D.rt D.ex) : sRet e D s h := q
theorem lkc (f : Str) (t : T) (r : List (Str × T)) : List.lookup f ((f, t) :: r) = some t := by simp [List.lookup]
theorem log_small {i : Int} (h : i.natAbs < 2 ^ 200) : i.natAbs.log2 < 1920 := by
  by_cases z : i.natAbs = 0
  · rw [z]; decide
  · exact Nat.lt_trans ((Nat.log2_lt z).mpr h) (by decide)
theorem repr_I {i : Int} (h : i.natAbs < 2 ^ 200) : reprT (.int i) = some ((toString i : String) : Str) := if_pos (log_small h)
theorem strOk_of (s : String) : PyData.strOk (s : Str) = true := by
  show PyData.strOk (Str.ofString s) = true
  rw [Str.ofString_eq_toList]
  unfold PyData.strOk
  rw [List.all_toArray, List.all_map, List.all_eq_true]
  intro c _
  refine decide_eq_true ?_
  have := c.valid
  rcases this with h | ⟨_, h⟩
  · show c.val.toNat < 1114112
    have h' : c.val.toNat < 55296 := h
    omega
  · show c.val.toNat < 1114112
    exact h
theorem add_go {fl : Bool} {i j : Int} {h : Hq} {Q : TK} (q : Q (.int (i + j)) h) : oAdd fl (.int i) (.int j) h Q := q
theorem hand_go {i j : Nat} {ns : List Int} {k : Int} {s : Sl} {h : Hq} {E : EX} {Q : TK} (hi : s[i]? = some (some (.scr ns))) (hj : s[j]? = some (some (.int k))) (k0 : 0 ≤ k) (k1 : k ≤ 63) (hn : ns.length ≤ 63) (q : ∀ p, h p = none → Q (.ref p) (put h p .pool)) : eFrz (eCall 2 CHand (aCons (eVar i) (aCons (eVar j) aNil))) s h Q E :=
  calls (ea_cons (ev_var hi) (ea_cons (ev_var hj) ea_nil)) rfl ⟨ns, k, rfl, k0, k1, hn, fun p np => by
    unfold frzK
    dsimp only
    rw [put_same]
    exact q p np⟩
theorem cells_eq (ns : List Int) (m : Int) (h1 : 1 ≤ m) (h2 : m ≤ 63) {s : Sl} {h : Hq} {E : EX} {i : Nat} (hi : s[i]? = some (some (.scr ns))) : ∃ k : Nat, (k : Int) ≤ m ∧ Eq1 s h E (iRange1 (aCons (eCB oMax (aCons (eC (.int 1)) (aCons (eCB oMin (aCons (eCB oLen (aCons (eVar i) aNil)) (aCons (eC (.int m)) aNil))) aNil))) aNil)) (rng 0 k) := by
  obtain ⟨k, e, hk⟩ : ∃ k : Nat, (if (if m < (ns.length : Int) then m else (ns.length : Int)) > 1 then (if m < (ns.length : Int) then m else (ns.length : Int)) else 1) = (k : Int) ∧ (k : Int) ≤ m := ⟨(if (if m < (ns.length : Int) then m else (ns.length : Int)) > 1 then (if m < (ns.length : Int) then m else (ns.length : Int)) else 1).toNat, by split <;> split <;> omega, by split <;> split <;> omega⟩
  refine ⟨k, hk, eq_rng ?_ (by omega)⟩
  rw [← e]
  refine ev_max ev_c (ev_min ?_ ev_c)
  exact fun Q q => (ev_var hi : Ev s h E _ _) _ q
theorem put_old {h : Hq} {p b : Addr} {o u : O} (np : h p = none) (e : h b = some u) : put h p o b = some u := by rw [put_ne (fun z => by rw [z, np] at e; cases e)]; exact e
end TL

set_option maxHeartbeats 1000000
namespace TL
open PySem PySem.Spec L2 PyProof.Rows
section
variable {X : Cx} {W : WX} {K : PySem.W.Frag} {C : Addr}
end
section
variable {X : Cx} {W : WX}
end
end TL

set_option maxHeartbeats 1000000
namespace TL
open PySem L2
section
variable {s : Sl} {h : Hq} {E : EX} {C : Addr} {f : Str}
theorem ev_fld {m : EM} {x t : T} {gs : List (Str × T)} (hx : Ev s h E m x) (hi : insOf h x = some (C, gs)) (hl : gs.lookup f = some t) : Ev s h E (eFld C f m) t := fun Q q => hx _ (by
  try dsimp only
  rw [hi]
  refine ⟨rfl, ?_⟩
  try dsimp only
  rw [hl]
  exact q)
end
section
variable {s : Sl} {h : Hq} {C : Addr} {f : Str} {D : En} {r : SM} {mo mv : EM} {p : Addr} {gs : List (Str × T)}
theorem fldT_go {y : T} (hy : Ev s h D.ex mv y) (hx : Ev s h D.ex mo (.ref p)) (hp : h p = some (.ins C gs)) (l : gs.length < 1000) (q : r D s (put h p (.ins C (putT f y gs)))) : sSeq (sFldT C f mo mv) r D s h := hy _ (hx _ (by
  try dsimp only
  rw [hp]
  exact ⟨rfl, l, q⟩))
end
theorem frz_I {Q : TK} {i : Int} {h : Hq} (q : Q (.int i) h) : frzK Q (.int i) h := q
theorem frz_B {Q : TK} {b : Bool} {h : Hq} (q : Q (.bl b) h) : frzK Q (.bl b) h := q
theorem frz_T {Q : TK} {ts : List T} {h : Hq} (q : Q (.tup ts) h) : frzK Q (.tup ts) h := q
end TL

set_option maxHeartbeats 1000000
namespace TL
open PySem L2
theorem ev_same {s : Sl} {h : Hq} {E : EX} {x y : EM} {t : T} {n : Nat} (hx : Ev s h E x t) (hy : Ev s h E y t) (hv : view h t = t) (hc : cln n t = true) (hn : n ≤ 64 := by decide) : Ev s h E (eOp oNe x y) (.bl false) := ev_neC (n := n) hx hy (by rw [hv]; exact hc) (by rw [hv]; exact hc) (iff_of_false Bool.false_ne_true fun z => z rfl) hn
section
variable {s : Sl} {h : Hq} {D : En} {r x y : SM} {p : Addr}
theorem for_rng {src : IM} {g : GM} {b : SM} {lo : Int} {n : Nat} (hs : Eq1 s h D.ex src (rng lo n)) (I : Nat → SK) (h0 : I 0 s h) (hend : ∀ s h, I n s h → D.nx s h)
    (hstep : ∀ (i : Nat) s h, i < n → I i s h → g (.int (lo + i)) s h (fun s2 h2 => b { nx := I (i + 1), rt := D.rt, bk := D.nx, ct := I (i + 1), ex := D.ex } s2 h2) D.ex) : sFor src g b D s h :=
  for_src1 hs (forK_rng I h0 (fun s h q => ⟨trivial, hend s h q⟩) fun i s h hi q => ⟨trivial, hstep i s h hi q⟩)
end
section
variable {X : Cx} {W : WX}
end
section
variable {X : Cx} {W : WX}
end
section
variable {X : Cx} {W : WX}
end
theorem eqTs_self {f : T → Bool} (ih : ∀ t, f t = true → eqT t t = true) : ∀ ts : List T, ts.all f = true → eqTs ts ts = true
  | [], _ => rfl
  | t :: ts, h => by
    rw [List.all_cons, Bool.and_eq_true] at h
    show (eqT t t && eqTs ts ts) = true
    rw [ih t h.1, eqTs_self ih ts h.2]
    rfl
theorem eqT_self : ∀ (n : Nat) (t : T), dat n t = true → eqT t t = true
  | 0, _, h => by cases h
  | n + 1, .non, _ => rfl
  | n + 1, .bl b, _ => by cases b <;> rfl
  | n + 1, .int i, _ => by rw [eqT_int]; exact decide_eq_true rfl
  | n + 1, .str x, h => by rw [eqT_str h h]; exact decide_eq_true rfl
  | n + 1, .tup ts, h => by rw [eqT_tup h h]; exact eqTs_self (eqT_self n) ts h
  | n + 1, .lst ts, h => by rw [eqT_lst h h]; exact eqTs_self (eqT_self n) ts h
  | n + 1, .ins _ _, h => by cases h
  | n + 1, .ref _, h => by cases h
  | n + 1, .ty _, h => by cases h
  | n + 1, .scr _, h => by cases h
theorem ev_selfN {s : Sl} {h : Hq} {E : EX} {x y : EM} {t : T} {n : Nat} (hx : Ev s h E x t) (hy : Ev s h E y t) (hc : dat n (view h t) = true) (hn : n ≤ 64 := by decide) : Ev s h E (eOp oNe x y) (.bl false) := ev_op hx hy fun Q q => by
  refine ⟨dep (n := n) hc hn, dep (n := n) hc hn, ?_⟩
  rw [eqT_self n _ hc]
  exact q
theorem drop_to {e : EM} {N : SK} {rt : TK} {bk ct : SK} {ex : EX} {s : Sl} {h : Hq} (q : e s h (fun _ h1 => N s h1) ex) : sDrop e { nx := N, rt := rt, bk := bk, ct := ct, ex := ex } s h := q
section
variable {X : Cx}
end
theorem if_goT {c : TM} {x y : EM} {s : Sl} {h : Hq} {E : EX} {Q : TK} (hc : Ef s h E true c) (q : x s h Q E) : eIf c x y s h Q E := hc _ q
theorem if_goF {c : TM} {x y : EM} {s : Sl} {h : Hq} {E : EX} {Q : TK} (hc : Ef s h E false c) (q : y s h Q E) : eIf c x y s h Q E := hc _ q
end TL

set_option maxHeartbeats 4000000
namespace TL
open PySem PySem.Spec PyProof.Rows L2
structure FnE (P : Program) (w : World) (K : PySem.W.Frag) (mg : Str → Option Value) (base : Heap) (k : Nat) (f : Addr) (fd : FuncData) (ps : List Str) (p : Addr × Obj) (sp : Sp) : Prop where
  ln : ∀ {vs : List V} {H : Hp} {Q : VK} {E : XK}, sp vs H Q E → vs.length = ps.length
  go : ∀ {A : Around} {outer : List Env} {s : Shared} {H : Hp} {args : Args} {us : List Value} {vs : List V} {Q : VK} {E : XK},
    L2H.RoomH k A → A.handled = some (.ref p.1) → L2H.PinOk outer H s p → Env0 P w K mg base A outer s H → BindsTo s fd args (ps.zip us) → Vals vs us → sp vs H Q E →
    codeAny (model P w) A (.call (.ref f) args) (CR (L2.CX P w) outer P w H s Q E) s
theorem FnE.mono {P : Program} {w : World} {K : PySem.W.Frag} {mg : Str → Option Value} {base : Heap} {j k : Nat} {f : Addr} {fd : FuncData} {ps : List Str} {p : Addr × Obj} {sp : Sp} (F : FnE P w K mg base j f fd ps p sp) (h : j ≤ k) : FnE P w K mg base k f fd ps p sp :=
  ⟨F.ln, fun r => F.go (r.mono h)⟩
section
variable {X : Cx} {k n : Nat} {f : Addr} {fd : FuncData} {ps : List Str} {sp : Sp} {x : Str} {q pos : Pos} {e : Expr} {es : List Expr} {t : TA} {a : Addr} {oe : Obj} {pn : List (Addr × Obj)}
end
section
variable {X : Cx} {a : Addr} {oe : Obj} {pn : List (Addr × Obj)}
end
section
variable {X : Cx} {a : Addr} {oe : Obj} {cls : Value} {d : Option Addr} {pn : List (Addr × Obj)}
end
end TL

set_option maxHeartbeats 1000000
namespace TL
open PySem PySem.Spec PyProof.Rows L2 L2H
section
variable {X : Cx} {W : WX} {a : Addr} {oe : Obj} {cls : Value} {d : Option Addr} {pn : List (Addr × Obj)} {xe : Value → Shared → Prop}
end
section
variable {X : Cx} {W : WX}
end
section
variable {X : Cx}
end
end TL

set_option maxHeartbeats 2000000
namespace PySem.HandSPX
open PySem PySem.Spec
section
variable {prog : Program} {w : World} {A : Around} {h : Heap} {t : Nat} {os : OsState} {E : Value → Shared → Prop} {g : Array GenState} {R : Result → Shared → Prop} {d : Drawn}
variable {C N : Addr} {nm q : Str} {bm bs bmB : List Value} {ab hdct : Bool} {col : Option Bool} {sn : List Str} {sub : List Value} {k0 k1 k2 k3 k5 : Option Value} {dd : Option Addr} {newId B initId : String}
end
end PySem.HandSPX

set_option maxHeartbeats 4000000
namespace TL
open PySem PySem.Spec PyProof.Rows L2
section
variable {X : Cx} {pins : List (Addr × Obj)} {σ : L2.St} {H : Hp} {s : Shared}
structure KBe (K : PySem.W.Frag) (fd : FuncData) (ps ks : List Str) (idx : List Nat) : Prop where
  to : ∀ (s : Shared) (a : Value) (ws : List Value), K.In s.heap → ws.length = ks.length → BindsTo s fd ⟨[a], ks.zip ws⟩ (ps.zip (a :: idx.filterMap fun i => ws[i]?))
section
variable {W : WX}
end
end
end TL

set_option maxHeartbeats 1000000
namespace TL
open PySem PySem.Spec PySem.Calls PyProof.Rows L2 GenW

abbrev Ix := Shared × List (Addr × Obj)
abbrev reX (X : Cx) (xe : Ix → Value → Shared → Prop) (i : Ix) : Cx := { X with s_0 := i.1, xe := xe i, pn := X.pn ++ i.2 }
structure Tk where
  L : Addr
  ws : List Addr
  n0 : Nat
  Vp : Shared → Prop
  C : List V → Heap → Prop
abbrev rebase (u : Shared) (L : Addr) (o : Obj) : Shared := { u with heap := u.heap.update L fun _ => o }
structure Slp (T : Tk) (base : Heap) (outer : List Env) (u s s' : Shared) : Prop where
  os : s'.os = s.os
  bare : AllBare s'.gens
  keep : ∀ b o, b ≠ T.L → b ∉ T.ws → s.heap.get? b = some o → s'.heap.get? b = some o
  own : ∀ b ∈ T.ws, ∃ o, s'.heap.get? b = some o ∧ ∀ v, o.data ≠ .cell v
  fr : s'.heap.FunFrames base outer
  vp : ∃ o, s'.heap.get? T.L = some o ∧ T.Vp (rebase u T.L o)
structure TkOk (X : Cx) (T : Tk) : Prop where
  pn : ∀ p ∈ X.pn, p.1 ≠ T.L ∧ p.1 ∉ T.ws
  lb : X.base.get? T.L = none
  l0 : X.H_0 T.L = none
  cells : ∀ x c, X.env.cells.lookup x = some c → c ≠ T.L
  young : ∀ b ∈ T.ws, T.n0 ≤ b
  ex : X.ex = []
  st : ∀ ys (h h' : Heap), (∀ b ∈ T.ws, h.get? b = h'.get? b) → T.C ys h → T.C ys h'
def GIy (X : Cx) (xe : Ix → Value → Shared → Prop) (T : Tk) (ip : List (Addr × Obj)) (ys : List V) (σ : L2.St) (H : Hp) (s : Shared) : Prop :=
  ∃ cp u, cp.map (·.1) = T.ws ∧ Inv (reX X xe (u, cp)) (cp ++ ip) σ H s ∧ T.Vp u ∧ T.C ys s.heap ∧ (∃ o, u.heap.get? T.L = some o) ∧ u.heap.objs.size = T.n0
def Vq (T : Tk) (i : Ix) : Prop := T.Vp i.1 ∧ i.2.map (·.1) = T.ws ∧ ∃ ys h, T.C ys h ∧ ∀ p ∈ i.2, h.get? p.1 = some p.2
def YY (X : Cx) (xe : Ix → Value → Shared → Prop) (T : Tk) : Protocol := fun n s₀ v s kap =>
  ∃ ys x ip cp u σ H, n + 1 + ys.length = sizeLine ∧ RelV x v ∧ cp.map (·.1) = T.ws ∧ Inv (reX X xe (u, cp)) (cp ++ ip) σ H s ∧ T.Vp u ∧ T.C ys s.heap ∧ (∃ o, u.heap.get? T.L = some o) ∧ u.heap.objs.size = T.n0 ∧
    ∀ s', Slp T X.base X.outer u s s' → T.C (ys ++ [x]) s'.heap → kap (.send .none) s'
def SPy (X : Cx) (xe : Ix → Value → Shared → Prop) (T : Tk) (ip : List (Addr × Obj)) (D : GEnds) (ys : List V) (f : Flow) (s : Shared) : Prop :=
  match f with
  | .next => ∃ σ H, GIy X xe T ip ys σ H s ∧ D.nx ys σ H
  | .brk => ∃ σ H, GIy X xe T ip ys σ H s ∧ D.bk ys σ H
  | .cont => ∃ σ H, GIy X xe T ip ys σ H s ∧ D.ct ys σ H
  | .ret w => ∃ v σ H, GIy X xe T ip ys σ H s ∧ RelV v w ∧ D.rt ys v H
structure GCy (X : Cx) (T : Tk) (ip : List (Addr × Obj)) (A : Around) (c : Code) (fs : List Frame) (gd : Bool → Bool) : Prop where
  ok : TkOk X T
  ip : ∀ p ∈ ip, p.1 ≠ T.L ∧ p.1 ∉ T.ws
  over : A.over c fs = X.A
  split : splitAtGen fs = none
  guard : fs.any Frame.guarded = false
  gd : gd false = false
structure GKy (X : Cx) (xe : Ix → Value → Shared → Prop) (T : Tk) (ip : List (Addr × Obj)) (A : Around) (R : GenEnd) (c : Code) (fs : List Frame) (K : Flow → Sem PySem.Fin) (J : Value → Sem PySem.Fin) (D : GEnds) : Prop where
  ok : ∀ (n : Nat) (ys : List V) (s₀ s : Shared) (f : Flow), n + ys.length = sizeLine → SPy X xe T ip D ys f s → Seg (model X.prog X.w) A R (YY X xe T) n s₀ c (K f) fs s
  exc : ∀ (n : Nat) (s₀ : Shared) (e : Value) (s : Shared) (i : Ix), Vq T i → xe i e s → Seg (model X.prog X.w) A R (YY X xe T) n s₀ c (J e) fs s
structure GSy (X : Cx) (xe : Ix → Value → Shared → Prop) (st : Stmt) (t : TGn) : Prop where
  run : ∀ (A : Around) (T : Tk) (ip : List (Addr × Obj)) (R : GenEnd) (n : Nat) (ys : List V) (s₀ : Shared) (c : Code) (fs : List Frame) (K : Flow → Sem PySem.Fin) (J : Value → Sem PySem.Fin) (gd : Bool → Bool) (lv : List Value → List Value) (s : Shared) (σ : L2.St) (H : Hp) (D : GEnds),
    GCy X T ip A c fs gd → n + ys.length = sizeLine → GKy X xe T ip A R c fs K J D → GIy X xe T ip ys σ H s → t D ys σ H →
    Seg (model X.prog X.w) A R (YY X xe T) n s₀ c ((exec st X.env).wrap K J gd lv) fs s
structure GSys (X : Cx) (xe : Ix → Value → Shared → Prop) (st : List Stmt) (t : TGn) : Prop where
  run : ∀ (A : Around) (T : Tk) (ip : List (Addr × Obj)) (R : GenEnd) (n : Nat) (ys : List V) (s₀ : Shared) (c : Code) (fs : List Frame) (K : Flow → Sem PySem.Fin) (J : Value → Sem PySem.Fin) (gd : Bool → Bool) (lv : List Value → List Value) (s : Shared) (σ : L2.St) (H : Hp) (D : GEnds),
    GCy X T ip A c fs gd → n + ys.length = sizeLine → GKy X xe T ip A R c fs K J D → GIy X xe T ip ys σ H s → t D ys σ H →
    Seg (model X.prog X.w) A R (YY X xe T) n s₀ c ((execs st X.env).wrap K J gd lv) fs s
section
variable {X : Cx} {xe : Ix → Value → Shared → Prop} {st : Stmt} {rest : List Stmt}
theorem GSy.wk {t t' : TGn} (h : GSy X xe st t) (k : ∀ D ys σ H, t' D ys σ H → t D ys σ H) : GSy X xe st t' := ⟨fun A S ip R n ys s₀ c fs K J gd lv s σ H D g hn gk gi q => h.run A S ip R n ys s₀ c fs K J gd lv s σ H D g hn gk gi (k _ _ _ _ q)⟩
theorem GSys.wk {t t' : TGn} {st : List Stmt} (h : GSys X xe st t) (k : ∀ D ys σ H, t' D ys σ H → t D ys σ H) : GSys X xe st t' := ⟨fun A S ip R n ys s₀ c fs K J gd lv s σ H D g hn gk gi q => h.run A S ip R n ys s₀ c fs K J gd lv s σ H D g hn gk gi (k _ _ _ _ q)⟩
section
variable {M : Model} {A : Around} {R : GenEnd} {Y : Protocol} {n : Nat} {s₀ s : Shared} {c : Code} {fs : List Frame} {env : Env} {K : Flow → Sem PySem.Fin} {J : Value → Sem PySem.Fin} {gd : Bool → Bool} {lv : List Value → List Value}
end
section
variable {prog : Program} {w : World} {A : Around} {R : GenEnd} {Y : Protocol} {n : Nat} {s₀ : Shared} {fs : List Frame} {s : Shared} {env : Env}
end

theorem GCy.more {T : Tk} {ip ip' : List (Addr × Obj)} {A : Around} {c : Code} {fs : List Frame} {gd : Bool → Bool} (g : GCy X T ip A c fs gd) (h : ∀ p ∈ ip', p.1 ≠ T.L ∧ p.1 ∉ T.ws) : GCy X T ip' A c fs gd := ⟨g.ok, h, g.over, g.split, g.guard, g.gd⟩
end
end TL

set_option maxHeartbeats 1000000
namespace TL
open PySem PySem.Spec PySem.Calls PyProof.Rows L2 GenW

structure TkAt (base : Heap) (H : Hp) (s s' s2 : Shared) (T : Tk) : Prop where
  lb : base.get? T.L = none
  l0 : H T.L = none
  lo : ∃ o, s.heap.get? T.L = some o
  n0 : T.n0 = s.heap.objs.size
  vp : T.Vp s
  c0 : T.C [] s2.heap
  own : ∀ b ∈ T.ws, s'.heap.objs.size ≤ b ∧ ∃ o, s2.heap.get? b = some o ∧ ∀ v, o.data ≠ .cell v
  st : ∀ ys (h h' : Heap), (∀ b ∈ T.ws, h.get? b = h'.get? b) → T.C ys h → T.C ys h'
def REndY (P : Program) (w : World) (outer : List Env) (H : Hp) (T : Tk) (a : Addr) (g : Nat) (Q : List V → Hp → Prop) (E : XK) : GenEnd := fun n s₀ r s1 =>
  ((r = .ok (.ret .none) ∨ r = .ok .next) ∧ ∃ H' ys u, T.Vp u ∧ s1.os = u.os ∧ AllBare s1.gens ∧ Un (frs outer) [] H H' u.heap s1.heap ∧ HOk P w H' s1.heap ∧ T.C ys s1.heap ∧ (∀ b ∈ T.ws, H' b = none ∧ ∃ o, s1.heap.get? b = some o) ∧ ys.length ≤ sizeLine ∧ Q ys H') ∨
  ∃ e, r = .error e ∧ ∃ u ys, T.Vp u ∧ CX P w outer H u (fun cls d H' => E cls d H' ∧ ∀ b ∈ T.ws, H' b = none) e s1 ∧ s1.heap.IsGen a g ∧ T.C ys s1.heap
def YItemY (P : Program) (w : World) (base : Heap) (outer : List Env) (H : Hp) (T : Tk) (a : Addr) (g : Nat) : Protocol := fun n s₀ v s1 kap =>
  ∃ ys x u H', n + 1 + ys.length = sizeLine ∧ RelV x v ∧ T.Vp u ∧ s1.os = u.os ∧ AllBare s1.gens ∧ s1.heap.NoLimit ∧ s1.heap.IsGen a g ∧ Un (frs outer) [] H H' u.heap s1.heap ∧ HOk P w H' s1.heap ∧ T.C ys s1.heap ∧ (∀ b ∈ T.ws, H' b = none ∧ ∃ o, s1.heap.get? b = some o) ∧
    (∃ o, u.heap.get? T.L = some o) ∧ ∀ s', Slp T base outer u s1 s' → T.C (ys ++ [x]) s'.heap → kap (.send .none) s'
def GMadeY (P : Program) (w : World) (base : Heap) (k : Nat) (outer : List Env) (H : Hp) (s : Shared) (Q : List V → Hp → Prop) (E : XK) (u : Value) (s' : Shared) : Prop :=
  ∃ (a : Addr) (g : Nat) (c : Code), u = .ref a ∧ s.heap.objs.size ≤ a ∧ a < s'.heap.objs.size ∧ s'.heap.IsGen a g ∧ s'.gens[g]? = some (.fresh c) ∧ s'.os = s.os ∧ AllBare s'.gens ∧ s'.heap.NoLimit ∧ (∀ b o, s.heap.get? b = some o → s'.heap.get? b = some o) ∧
    ∀ (A : Around) (T : Tk) (s2 : Shared), Room k A → A.frames = some outer → TkAt base H s s' s2 T → (∀ b o, s'.heap.get? b = some o → s2.heap.get? b = some o) → s2.os = s.os → AllBare s2.gens →
      Seg (model P w) A (REndY P w outer H T a g Q E) (YItemY P w base outer H T a g) sizeLine s2 c ((model P w).den c) [] s2
section
variable {P : Program} {w : World} {K : PySem.W.Frag} {mg : Str → Option Value} {base : Heap} {N : List Str} {qual : Str} {scope : Scope} {f : Addr} {cd : Value} {A : Around} {outer : List Env} {s : Shared} {H : Hp} {E : XK} {pn : List (Addr × Obj)}
end
structure GFnY (P : Program) (w : World) (K : PySem.W.Frag) (mg : Str → Option Value) (base : Heap) (k : Nat) (f : Addr) (fd : FuncData) (ps : List Str) (sp : SpG) : Prop where
  len : ∀ vs H Q E, sp vs H Q E → vs.length = ps.length
  run : ∀ (A : Around) (outer : List Env) (s : Shared) (H : Hp) (args : Args) (us : List Value) (vs : List V) (Q : List V → Hp → Prop) (E : XK), Room k A → Env0 P w K mg base A outer s H → BindsTo s fd args (ps.zip us) → Vals vs us → sp vs H Q E →
    codeAny (model P w) A (.call (.ref f) args) (fun r s' => match r with | .ok (.ret u) => GMadeY P w base k outer H s Q E u s' | _ => False) s
end TL

set_option maxHeartbeats 1000000
namespace TL
open PySem PySem.Spec PySem.Calls PyProof.Rows L2 GenW

abbrev TGenY := L2.St → Hp → (List V → Hp → Prop) → XK → Prop
structure PGenY (X : Cx) (k : Nat) (e : Expr) (tg : TGenY) : Prop where
  run : ∀ (pins : List (Addr × Obj)) (s : Shared) (σ : L2.St) (H : Hp) (cont : List V → Hp → Prop) (E : XK), Inv X pins σ H s → tg σ H cont E → wpAny (model X.prog X.w) X.A (eval e X.env)
    (fun u s' => ∃ H1 sc, Inv X pins σ H1 sc ∧ GMadeY X.prog X.w X.base k X.stack H1 sc cont E u s') X.xe s
section
variable {X : Cx} {k : Nat} {f : Addr} {fd : FuncData} {ps : List Str} {sp : SpG} {x : Str} {p pos : Pos}
end
end TL

set_option maxHeartbeats 1000000
namespace TL
open PySem PySem.Spec PySem.Calls PyProof.Rows L2 GenW

section
variable {X : Cx} {xe : Ix → Value → Shared → Prop} {W : WX} {st : Stmt} {rest : List Stmt}
end
theorem RepS.drop {K : PySem.W.Frag} {S : Fz} {H : Hp} {σ : L2.St} {s : Sl} (r : RepS K S H σ s) (i : Nat) : RepS K S H (σ.set i none) (s.set i none) := ⟨by simp [r.len], fun j u e => by
  by_cases c : i = j
  · subst c
    have hl : i < s.length := by
      have := (List.getElem?_eq_some_iff.mp e).1
      simpa using this
    rw [List.getElem?_set_self hl] at e
    cases e
  · rw [List.getElem?_set_ne c] at e
    obtain ⟨w, h1, h2⟩ := r.at_ j u e
    exact ⟨w, by rw [List.getElem?_set_ne c]; exact h1, h2⟩⟩
end TL

set_option maxHeartbeats 1000000
namespace TL
open PySem PySem.Spec PySem.Calls PyProof.Rows L2
section
variable {K : PySem.W.Frag}
end
section
variable {X : Cx} {W : WX} {K : PySem.W.Frag} {C : Addr}
end
end TL

set_option maxHeartbeats 4000000
namespace TL
open PySem PySem.Spec PyProof.Rows L2
structure DOk (P : Program) (w : World) (K : PySem.W.Frag) (mg : Str → Option Value) (base : Heap) (k : Nat) (nm : Str) (n : Nat) (C : Addr) (c : Con) : Prop where
  ex : ∃ f fd ps k', k' ≤ k ∧ Meth K C nm f ∧ PySem.W.fnIn K f = true ∧ Cls K C ∧ FnOk P w K mg base (L2N.CX P w) k' f fd ps (liftSp K n c) ∧ Binds K fd ps []
abbrev Dsp (P : Program) (w : World) (K : PySem.W.Frag) (mg : Str → Option Value) (base : Heap) (k : Nat) (nm : Str) (n : Nat) (D : List (Addr × Con)) : Prop := ∀ o ∈ D, DOk P w K mg base k nm n o.1 o.2
section
variable {X : Cx} {W : WX} {D : List (Addr × Con)}
theorem callWith_instD {M : Model} {A : Around} {E : Value → Shared → Prop} {s : Shared} {pos : Pos} {x : Addr} {first : List Value} {Q : Value → Shared → Prop} {args : List (Bool × Sem Value)} {keywords : List (Option Str × Sem Value)} (hplain : (args.any (·.1) || keywords.any (·.1.isNone)) = false)
    (h : wpAny M A (evalArgs (.ref x) true args keywords) (fun a s₁ => (∃ C ox od, PySem.W.InstAt s₁.heap x ox C od ∧ ox.data = .plain) ∧ wpAny M A (call (.ref x) (first ++ a.pos) a.kw) Q E s₁) E s) : wpAny M A (callWith pos (.ref x) first args keywords) Q E s := by
  unfold callWith
  refine wpAny_bind (wpAny_holding (wpAny_mono h (fun a s₁ ⟨⟨C, ox, od, J, hd⟩, h₁⟩ => wpAny_bind (wpAny_standAt ?_)) fun _ _ y => y))
  simp only [hplain]
  refine wpAny_bind ((PySem.W.kco_keeper (M := M) J hd).here ?_)
  exact wpAny_bind (wpAny_mono (wpAny_operateT h₁) (fun r s₂ hr => wpAny_bind (wpAny_holding (wpAny_point (wpAny_pure hr)))) fun _ _ y => y)
theorem pe_ownD {k n : Nat} {E : L2.St → XK} {o e : Expr} {es : List Expr} {ta : TE} {t : TA} {pos : Pos} (hD : Dsp X.prog X.w X.K X.mg X.base k "__call__" n D) (hr : Room k X.A) (hx : ∀ σ, PassesAt (L2N.CX X.prog X.w) X σ (E σ)) (ho : PE X o ta) (ha : PA X (e :: es) t)
    (he : starEach (e :: es) X.env = (false, eval e X.env) :: starEach es X.env) (hpl : (backTo pos (starEach es X.env)).any (·.1) = false)
    (ht : eval (.Call o (e :: es) [] pos) X.env = (do callWith pos (← eval o X.env) [] (backTo pos (starEach (e :: es) X.env)) (backToKw pos (keywordEach [] X.env)))) :
    PE X (.Call o (e :: es) [] pos) (fun σ H Q => ta σ H fun x H1 => ∃ a, x = .ref a ∧ t σ H1 fun vs H2 => ∃ C c dx fs, (C, c) ∈ D ∧ H2 a = some (.ins C dx fs) ∧ liftSp X.K n c (.ref a :: vs) H2 Q (E σ)) := ⟨fun pins s σ H Q I h => by
  refine Call_ (thn (ho.run pins s σ H _ I h) fun u s1 ⟨x, H1, I1, rx, a, ex, q⟩ => ?_) ht
  subst ex
  obtain rfl : u = Value.ref a := rx
  have z := thn (ha.run pos pins s1 σ H1 _ I1 q) (Q' := fun us s2 => (∃ C ox od, PySem.W.InstAt s2.heap a ox C od ∧ ox.data = .plain) ∧ wpAny (model X.prog X.w) X.A (call (.ref a) ([] ++ us)) (EP X pins σ Q) X.xe s2) fun us s2 ⟨vs, H2, I2, r, C, c, dx, fs, hm, ea, q2⟩ => by
    obtain ⟨od, J⟩ := instAt I2 ea
    obtain ⟨f, fd, ps, k', hk, me, fn, cl, F, hb⟩ := (hD _ hm).ex
    exact ⟨⟨C, _, _, J, rfl⟩, run_own me fn F (hr.mono hk) hb (hx σ) I2 ea r q2⟩
  rw [he] at z ⊢
  exact callWith_instD (by show ((false || (backTo pos (starEach es X.env)).any (·.1)) || false) = false; rw [hpl]; rfl) (PySem.Calls.evalArgs_plain z)⟩
def eOwnD (D : List (Addr × Con)) (n : Nat) (mo : EM) (ma : AM) : EM := fun s h Q E => mo s h (fun x h1 => (insOf h1 x).isSome = true ∧ ma s h1 (fun ts h2 => match insOf h2 x with
  | some (C', _) => ts.length + 1 = n ∧ ∃ c, (C', c) ∈ D ∧ c (x :: ts) h2 Q fun y h3 => E y s h3
  | none => False) E) E
theorem j_ownD {k n : Nat} {o e : Expr} {es : List Expr} {mo : EM} {ma : AM} {pos : Pos} (hD : Dsp X.prog X.w X.K X.mg X.base k "__call__" n D) (hr : Room k X.A) (hx : ∀ σ, PassesAt (L2N.CX X.prog X.w) X σ (WE W σ)) (ho : JE X W o mo) (ha : JA X W (e :: es) ma)
    (he : starEach (e :: es) X.env = (false, eval e X.env) :: starEach es X.env := by rfl) (hpl : (backTo pos (starEach es X.env)).any (·.1) = false := by rfl)
    (ht : eval (.Call o (e :: es) [] pos) X.env = (do callWith pos (← eval o X.env) [] (backTo pos (starEach (e :: es) X.env)) (backToKw pos (keywordEach [] X.env))) := by rfl) :
    JE X W (.Call o (e :: es) [] pos) (eOwnD D n mo ma) := PE.wk (pe_ownD (E := WE W) hD hr hx ho ha he hpl ht) fun σ H Q' ⟨S, h, s, Q, E, m, rs, lk, hm, pk⟩ =>
  ⟨S, h, s, _, E, m, rs, lk, hm, fun S1 H1 h1 v x f1 m1 r1 ⟨i1, q1⟩ => by
    obtain ⟨⟨C1, g1⟩, e1⟩ := Option.isSome_iff_exists.mp i1
    obtain ⟨a, dx, fs, rfl, ea, _⟩ := insOf_ok m1 r1 e1
    refine ⟨a, rfl, S1, h1, s, _, E, m1, rs.fut f1, lk.fut f1, q1, fun S2 H2 h2 vs ts f2 m2 r2 q2 => ?_⟩
    split at q2
    · rename_i C2 g2 e2
      obtain ⟨l2, c, hc, q2⟩ := q2
      obtain ⟨a', dx', fs', ev, ea', _⟩ := insOf_ok m2 (r1.fut f2) e2
      cases ev
      exact ⟨C2, c, dx', fs', hc, ea', S2, h2, x :: ts, Q, _, m2, .cons (r1.fut f2) r2, l2, q2, pk.fut (f1.trans f2), fun S3 H3 h3 y cls d f3 m3 r3 q3 => lk S3 H3 h3 σ s y cls d ((f1.trans f2).trans f3) m3 (rs.fut ((f1.trans f2).trans f3)) r3 q3⟩
    · exact q2.elim⟩
theorem pe_methD0 {k n : Nat} {E : L2.St → XK} {m : Str} {o : Expr} {ta : TE} {pos apos : Pos} {pl : Sem Bool} (hD : Dsp X.prog X.w X.K X.mg X.base k m n D) (hr : Room k X.A) (hx : ∀ σ, PassesAt (L2N.CX X.prog X.w) X σ (E σ)) (he : PE X o ta)
    (ht : eval (.Call (.Attribute o m apos) [] [] pos) X.env = (do
      let ov ← eval o X.env
      standAt apos.atName
      let (f, first) ← holding [ov] (getMethod ov m pl)
      callWith pos f first (backTo pos (starEach [] X.env)) (backToKw pos (keywordEach [] X.env)))) :
    PE X (.Call (.Attribute o m apos) [] [] pos) (fun σ H Q => ta σ H fun x H1 => ∃ a C c dx fs, x = .ref a ∧ (C, c) ∈ D ∧ H1 a = some (.ins C dx fs) ∧ fs.lookup m = none ∧ liftSp X.K n c [.ref a] H1 Q (E σ)) := ⟨fun pins s σ H Q I h => by
  refine PySem.W.methodCall_KW (pl := pl) (thn (he.run pins s σ H _ I h) fun u s1 ⟨x, H1, I1, rx, a, C, c, dx, fs, ex, hm, ea, l, q⟩ => ?_) ht
  subst ex
  obtain rfl : u = Value.ref a := rx
  obtain ⟨f, fd, ps, k', hk, me, fn, cl, F, hb⟩ := (hD _ hm).ex
  exact getmeth_ok I1 ea cl me l (PySem.W.callWith_K0 (first := [.ref a]) I1.kIn me.kp (run_fnS (us := [.ref a]) (vs := [.ref a]) F (hr.mono hk) hb (hx σ) I1 (.cons rfl .nil) q))⟩
def eMethD (D : List (Addr × Con)) (nm : Str) (n : Nat) (mo : EM) : EM := fun s h Q E => mo s h (fun x h1 => match insOf h1 x with
  | some (C', gs) => gs.lookup nm = none ∧ 1 = n ∧ ∃ c, (C', c) ∈ D ∧ c [x] h1 Q fun y h3 => E y s h3
  | none => False) E
theorem j_methD0 {k n : Nat} {m : Str} {o : Expr} {mo : EM} {pos apos : Pos} {pl : Sem Bool} (hD : Dsp X.prog X.w X.K X.mg X.base k m n D) (hr : Room k X.A) (hx : ∀ σ, PassesAt (L2N.CX X.prog X.w) X σ (WE W σ)) (he : JE X W o mo)
    (ht : eval (.Call (.Attribute o m apos) [] [] pos) X.env = (do
      let ov ← eval o X.env
      standAt apos.atName
      let (f, first) ← holding [ov] (getMethod ov m pl)
      callWith pos f first (backTo pos (starEach [] X.env)) (backToKw pos (keywordEach [] X.env))) := by rfl) :
    JE X W (.Call (.Attribute o m apos) [] [] pos) (eMethD D m n mo) := PE.wk (pe_methD0 (E := WE W) hD hr hx he ht) fun σ H Q' ⟨S, h, s, Q, E, mm, rs, lk, hm, pk⟩ =>
  ⟨S, h, s, _, E, mm, rs, lk, hm, fun S1 H1 h1 v x f1 m1 r1 q1 => by
    split at q1
    · rename_i C' gs e
      obtain ⟨l, l2, c, hc, q1⟩ := q1
      obtain ⟨a, dx, fs, rfl, ea, rf⟩ := insOf_ok m1 r1 e
      exact ⟨a, C', c, dx, fs, rfl, hc, ea, rf.nolook l, S1, h1, [x], Q, _, m1, .cons r1 .nil, l2, q1, pk.fut f1, fun S3 H3 h3 y cls d f3 m3 r3 q3 => lk S3 H3 h3 σ s y cls d (f1.trans f3) m3 (rs.fut (f1.trans f3)) r3 q3⟩
    · exact q1.elim⟩
theorem pe_ownFD {C : Addr} {k n : Nat} {E : L2.St → XK} {f : Str} {o e : Expr} {es : List Expr} {ta : TE} {t : TA} {apos pos : Pos} {pl : Sem Bool} (c : Cls X.K C) (na : NoAttr X.K C f) (hD : Dsp X.prog X.w X.K X.mg X.base k "__call__" n D) (hr : Room k X.A) (hx : ∀ σ, PassesAt (L2N.CX X.prog X.w) X σ (E σ)) (ho : PE X o ta) (ha : PA X (e :: es) t)
    (he : starEach (e :: es) X.env = (false, eval e X.env) :: starEach es X.env) (hpl : (backTo pos (starEach es X.env)).any (·.1) = false)
    (ht : eval (.Call (.Attribute o f apos) (e :: es) [] pos) X.env = (do
      let ov ← eval o X.env
      standAt apos.atName
      let (f, first) ← holding [ov] (getMethod ov f pl)
      callWith pos f first (backTo pos (starEach (e :: es) X.env)) (backToKw pos (keywordEach [] X.env)))) :
    PE X (.Call (.Attribute o f apos) (e :: es) [] pos) (fun σ H Q => ta σ H fun x H1 => ∃ a dx fs b, x = .ref a ∧ H1 a = some (.ins C dx fs) ∧ fs.lookup f = some (.ref b) ∧ t σ H1 fun vs H2 => ∃ B cc dy gs, (B, cc) ∈ D ∧ H2 b = some (.ins B dy gs) ∧ liftSp X.K n cc (.ref b :: vs) H2 Q (E σ)) := ⟨fun pins s σ H Q I h => by
  refine PySem.W.methodCall_KW (pl := pl) (thn (ho.run pins s σ H _ I h) fun u s1 ⟨x, H1, I1, rx, a, dx, fs, b, ex, ea, l, q⟩ => ?_) ht
  subst ex
  obtain rfl : u = Value.ref a := rx
  obtain ⟨od, J⟩ := instAt I1 ea
  refine PySem.W.method_usual I1.kIn J (PySem.W.plainGet_of (c.get f)).1 (PySem.W.plainGet_of (c.get f)).2 na rfl (getattr_ok I1 ea c na l fun u s2 I2 ru => ?_)
  obtain rfl : u = Value.ref b := ru
  have z := thn (ha.run pos pins s2 σ H1 _ I2 q) (Q' := fun us s3 => (∃ B ox od, PySem.W.InstAt s3.heap b ox B od ∧ ox.data = .plain) ∧ wpAny (model X.prog X.w) X.A (call (.ref b) ([] ++ us)) (EP X pins σ Q) X.xe s3) fun us s3 ⟨vs, H2, I3, r, B, cc, dy, gs, hm, eb, q2⟩ => by
    obtain ⟨od, J⟩ := instAt I3 eb
    obtain ⟨fn, fd, ps, k', hk, me, fn', cl, F, hb⟩ := (hD _ hm).ex
    exact ⟨⟨B, _, _, J, rfl⟩, run_own me fn' F (hr.mono hk) hb (hx σ) I3 eb r q2⟩
  rw [he] at z ⊢
  exact callWith_instD (by show ((false || (backTo pos (starEach es X.env)).any (·.1)) || false) = false; rw [hpl]; rfl) (PySem.Calls.evalArgs_plain z)⟩
theorem j_ownFD {C : Addr} {k n : Nat} {f : Str} {o e : Expr} {es : List Expr} {mo : EM} {ma : AM} {apos pos : Pos} {pl : Sem Bool} (cl : Cls X.K C) (na : NoAttr X.K C f) (hD : Dsp X.prog X.w X.K X.mg X.base k "__call__" n D) (hr : Room k X.A) (hx : ∀ σ, PassesAt (L2N.CX X.prog X.w) X σ (WE W σ)) (ho : JE X W o mo) (ha : JA X W (e :: es) ma)
    (he : starEach (e :: es) X.env = (false, eval e X.env) :: starEach es X.env := by rfl) (hpl : (backTo pos (starEach es X.env)).any (·.1) = false := by rfl)
    (ht : eval (.Call (.Attribute o f apos) (e :: es) [] pos) X.env = (do
      let ov ← eval o X.env
      standAt apos.atName
      let (f, first) ← holding [ov] (getMethod ov f pl)
      callWith pos f first (backTo pos (starEach (e :: es) X.env)) (backToKw pos (keywordEach [] X.env))) := by rfl) :
    JE X W (.Call (.Attribute o f apos) (e :: es) [] pos) (eOwnD D n (eFld C f mo) ma) := PE.wk (pe_ownFD (E := WE W) cl na hD hr hx ho ha he hpl ht) fun σ H Q' ⟨S, h, s, Q, E, m, rs, lk, hm, pk⟩ =>
  ⟨S, h, s, _, E, m, rs, lk, hm, fun S1 H1 h1 v x f1 m1 r1 q1 => by
    split at q1
    · rename_i C' gs e
      obtain ⟨rfl, q1⟩ := q1
      split at q1
      · rename_i y ey
        obtain ⟨i1, q1⟩ := q1
        obtain ⟨a, dx, fs, rfl, ea, rf⟩ := insOf_ok m1 r1 e
        obtain ⟨vy, evy, ry⟩ := rf.look ey
        obtain ⟨⟨C1, g1⟩, e1⟩ := Option.isSome_iff_exists.mp i1
        obtain ⟨b, dy, gy, rfl, eb, _⟩ := insOf_ok m1 ry e1
        refine ⟨a, dx, fs, b, rfl, ea, evy, S1, h1, s, _, E, m1, rs.fut f1, lk.fut f1, q1, fun S2 H2 h2 vs ts f2 m2 r2 q2 => ?_⟩
        split at q2
        · rename_i C2 g2 e2
          obtain ⟨l2, cc, hc, q2⟩ := q2
          obtain ⟨a', dx', fs', ev, ea', _⟩ := insOf_ok m2 (ry.fut f2) e2
          cases ev
          exact ⟨C2, cc, dx', fs', hc, ea', S2, h2, y :: ts, Q, _, m2, .cons (ry.fut f2) r2, l2, q2, pk.fut (f1.trans f2), fun S3 H3 h3 y cls d f3 m3 r3 q3 => lk S3 H3 h3 σ s y cls d ((f1.trans f2).trans f3) m3 (rs.fut ((f1.trans f2).trans f3)) r3 q3⟩
        · exact q2.elim
      · exact q1.elim
    · exact q1.elim⟩
theorem pe_callS0 {CX : CXT} {k : Nat} {f : Addr} {fd : FuncData} {ps : List Str} {sp : Sp} {E : L2.St → XK} {x : Str} {p pos : Pos} (F : FnOk X.prog X.w X.K X.mg X.base CX k f fd ps sp) (hr : Room k X.A) (hg : Gl X x) (hm : X.mg x = some (.ref f)) (hk : PySem.W.keepIn X.K (.ref f) = true) (hb : Binds X.K fd ps []) (hx : ∀ σ, PassesAt CX X σ (E σ)) (hdb : (x == ("__debug__" : Str)) = false) :
    PE X (.Call (.Name x p) [] [] pos) (fun σ H Q => sp [] H Q (E σ)) := ⟨fun pins s σ H Q I h => wpAny_Call_Name_kw (ld_glob I hg hm (PySem.W.callWith_K0 I.kIn hk (run_fnS (us := []) (vs := []) F hr hb (hx σ) I .nil h)) hdb)⟩
theorem j_call0 {CX : CXT} {k n : Nat} {f : Addr} {fd : FuncData} {ps : List Str} {c : Con} {x : Str} {p pos : Pos} (F : FnOk X.prog X.w X.K X.mg X.base CX k f fd ps (liftSp X.K n c)) (hr : Room k X.A) (hg : Gl X x) (hm : X.mg x = some (.ref f)) (hk : PySem.W.keepIn X.K (.ref f) = true) (hb : Binds X.K fd ps []) (hx : ∀ σ, PassesAt CX X σ (WE W σ)) (hdb : (x == ("__debug__" : Str)) = false := by decide) :
    JE X W (.Call (.Name x p) [] [] pos) (eCall n c aNil) := PE.wk (pe_callS0 (E := WE W) F hr hg hm hk hb hx hdb) fun σ H Q' ⟨S, h, s, Q, E, m, rs, lk, hm, pk⟩ =>
  ⟨S, h, [], Q, _, m, .nil, hm.1, hm.2, pk, fun S2 H2 h2 x cls d f2 m2 r2 q2 => lk S2 H2 h2 σ s x cls d f2 m2 (rs.fut f2) r2 q2⟩
theorem fn_none {P : Program} {w : World} {K : PySem.W.Frag} {mg : Str → Option Value} {base : Heap} {CX : CXT} {f : Addr} {fd : FuncData} {ps : List Str} {k n : Nat} {c : Con} (h : ∀ ts h Q E, ¬ c ts h Q E) : FnOk P w K mg base CX k f fd ps (liftSp K n c) :=
  ⟨fun vs H Q E ⟨S, hh, ts, Q', E', m, r, l, q, _⟩ => absurd q (h _ _ _ _), fun A outer s H args us vs Q E hr e0 b v ⟨S, hh, ts, Q', E', m, r, l, q, _⟩ => absurd q (h _ _ _ _)⟩
end
section
variable {K : PySem.W.Frag}
structure Fam (K : PySem.W.Frag) (nm : Str) (f : Addr) (Cs : List Addr) : Prop where
  me : ∀ C ∈ Cs, Meth K C nm f
  nf : ∀ C ∈ Cs, ∀ C' ∈ Cs, PySem.W.notFirst K C (.ref C') = true
structure FamB (K : PySem.W.Frag) (nm : String) (f : Addr) (Cs : List Addr) : Prop extends Fam K (PySem.dunder nm) f Cs where
  sf : ∀ C ∈ Cs, PySem.W.selfFirst K C = true
  nr : ∀ C ∈ Cs, PySem.W.findIn K (.ref C) (dunderR nm) = some none
def rOwnM (Cs : List Addr) (sp : Sp) : R2 := fun v w H Q => ∃ a b C C' dx dy fs gs, v = .ref a ∧ w = .ref b ∧ C ∈ Cs ∧ C' ∈ Cs ∧ H a = some (.ins C dx fs) ∧ H b = some (.ins C' dy gs) ∧ sp [.ref a, .ref b] H Q fun _ _ _ => False
def oOwnM (Cs : List Addr) (c : Con) : R2T := fun x y h Q => match insOf h x, insOf h y with
  | some (C1, _), some (C2, _) => C1 ∈ Cs ∧ C2 ∈ Cs ∧ c [x, y] h Q fun _ _ => False
  | _, _ => False
theorem p_ownM {Cs : List Addr} {c : Con} : OP K (rOwnM Cs (liftSp K 2 c)) (oOwnM Cs c) := fun S H h v w x y Q Q' m r1 r2 q pk => by
  unfold oOwnM at q
  split at q
  · rename_i C1 g1 C2 g2 e1 e2
    obtain ⟨h1, h2, q⟩ := q
    obtain ⟨a, dx, fs, rfl, ea, _⟩ := insOf_ok m r1 e1
    obtain ⟨b, dy, gs, rfl, eb, _⟩ := insOf_ok m r2 e2
    exact ⟨a, b, C1, C2, dx, dy, fs, gs, rfl, rfl, h1, h2, ea, eb, S, h, [x, y], Q, _, m, .cons r1 (.cons r2 .nil), rfl, q, pk, fun _ _ _ _ _ _ _ _ _ z => z.elim⟩
  · exact q.elim
open PySem.W in
theorem bin_two {prog : Program} {w : World} {A : Around} {E : Value → Shared → Prop} {s : Shared} {x y C C' f f' : Addr} {ox oy : Obj} {od od' : Option Obj} {op : Operator} {Q : Value → Shared → Prop} {nm sym : String} (hi : op.info = (sym, nm)) (X : K.In s.heap) (I : InstAt s.heap x ox C od) (J : InstAt s.heap y oy C' od') (hne : C ≠ C') (hsub : subIn K (.ref C') (.ref C) = some false)
    (hc : selfFirst K C = true) (hs : findIn K (.ref C) (PySem.dunder nm) = some (some (.ref f))) (hr : findIn K (.ref C) (dunderR nm) = some none) (hf : isFn K (.ref f) = true) (hc' : selfFirst K C' = true) (hs' : findIn K (.ref C') (PySem.dunder nm) = some (some (.ref f'))) (hr' : findIn K (.ref C') (dunderR nm) = some none)
    (h : wpAny (model prog w) A (call (.ref f) [.ref x, .ref y]) (PySem.W.CmpBack Q) E s) : wpAny (model prog w) A (binaryOp op (.ref x) (.ref y)) Q E s := by
  obtain ⟨cd, rest, hcd, hm⟩ := ksp_first hc
  obtain ⟨cd', rest', hcd', hm'⟩ := ksp_first hc'
  have one := ksp_try X I hs hf h
  have L1 : Looks (model prog w) s.heap (typeOf (.ref x)) (.ref C) := I.type
  have L2 : Looks (model prog w) s.heap (typeOf (.ref y)) (.ref C') := J.type
  have L3 : Looks (model prog w) s.heap (fillsNumberSlot (.ref C) nm) true := fills_K X hcd hm hs
  have L4 : Looks (model prog w) s.heap (fillsNumberSlot (.ref C') nm) true := fills_K X hcd' hm' hs'
  have L5 : Looks (model prog w) s.heap (isSubtype (.ref C') (.ref C)) false := looks_subIn X hsub
  have L6 : Looks (model prog w) s.heap (numberSlotInPython (.ref C) nm) true := ksp_inPy X hs hr (.inl rfl)
  have L7 : Looks (model prog w) s.heap (numberSlotInPython (.ref C') nm) true := ksp_inPy X hs' hr' (.inl rfl)
  have hne' : (Value.ref C == Value.ref C') = false := Bool.eq_false_iff.mpr fun q => hne (by cases beq_iff_eq.mp q; rfl)
  simp only [binaryOp, hi]
  refine wpAny_holding (wpAny_bind ?_)
  unfold binaryOp1
  refine wpAny_bind (L1.at (wpAny_bind (L2.at (wpAny_bind (L3.at ?_)))))
  simp only [hne', Bool.false_eq_true, if_false]
  ksp_lk
  refine wpAny_mono one (fun r s' ⟨v, e, hq⟩ => ?_) fun _ _ e => e
  subst e
  ksp_lk
  exact hq
end
section
variable {X : Cx} {P : Program} {w : World} {k : Nat} {f : Addr} {fd : FuncData} {ps : List Str} {sp : Sp} {Cs : List Addr}
theorem o_ownM {op : Operator} {nm sym : String} (hP : X.prog = P) (hw : X.w = w) (fm : FamB X.K nm f Cs) (F : FnOk X.prog X.w X.K X.mg X.base (L2N.CX P w) k f fd ps sp) (hr : Room k X.A) (hb : Binds X.K fd ps []) (hi : op.info = (sym, nm) := by rfl) : OpR X (binaryOp op) (rOwnM Cs sp) := by
  intro pins s σ H x y v u Q I rx ry h
  obtain ⟨a, b, C, C', dx, dy, fs, gs, rfl, rfl, hC, hC', ea, eb, q⟩ := h
  obtain rfl : v = .ref a := rx
  obtain rfl : u = .ref b := ry
  obtain ⟨oa, Ja⟩ := instAt I ea
  obtain ⟨ob, Jb⟩ := instAt I eb
  obtain ⟨mm, fr⟩ := I.fr
  have go := wpAny_mono (run_fnS (us := [.ref a, .ref b]) (vs := [.ref a, .ref b]) (E := fun _ _ _ _ => False) F hr hb (noneAt hP hw σ) I (.cons rfl (.cons rfl .nil)) q) (fun _ _ z => back_ep z) fun _ _ z => z
  by_cases e : C = C'
  · subst e
    exact PySem.W.binop_K fr I.ok.mod.kin Ja Jb.type (fm.sf C hC) (by rw [hi]; exact (fm.me C hC).at_) (fm.me C hC).fn go
  · have nf := fm.nf C hC C' hC'
    unfold PySem.W.notFirst at nf
    have ne : (Value.ref C' == Value.ref C) = false := Bool.eq_false_iff.mpr fun q => e (by cases beq_iff_eq.mp q; rfl)
    rw [ne, Bool.false_or] at nf
    exact bin_two hi I.kIn Ja Jb e (beq_iff_eq.mp nf) (fm.sf C hC) (fm.me C hC).at_ (fm.nr C hC) (fm.me C hC).fn (fm.sf C' hC') (fm.me C' hC').at_ (fm.nr C' hC') go
theorem o_ownCmpM {op : CmpOp} {nm : Str} (hop : ∀ (A : Around) (Q E) (s : Shared) (a b : Value), wpAny (model X.prog X.w) A (richCompare op a b) Q E s → wpAny (model X.prog X.w) A (compareOp op a b) Q E s) (hP : X.prog = P) (hw : X.w = w) (fm : Fam X.K nm f Cs) (hn : nm = (cmpInfo op).2.1) (F : FnOk X.prog X.w X.K X.mg X.base (L2N.CX P w) k f fd ps sp) (hr : Room (k + 1) X.A) (hb : Binds X.K fd ps []) :
    OpR X (compareOp op) (rOwnM Cs sp) := by
  intro pins s σ H x y v u Q I rx ry h
  obtain ⟨a, b, C, C', dx, dy, fs, gs, rfl, rfl, hC, hC', ea, eb, q⟩ := h
  obtain rfl : v = .ref a := rx
  obtain rfl : u = .ref b := ry
  obtain ⟨oa, Ja⟩ := instAt I ea
  obtain ⟨ob, Jb⟩ := instAt I eb
  obtain ⟨mm, fr⟩ := I.fr
  subst hn
  refine hop _ _ _ _ _ _ (PySem.W.cmp_K (tb := .ref C') (by have := hr.units; omega) fr I.ok.mod.kin Ja Jb.type (fm.nf C hC C' hC') (fm.me C hC).at_ (fm.me C hC).fn ?_)
  exact wpAny_mono (run_fnS (us := [.ref a, .ref b]) (vs := [.ref a, .ref b]) (E := fun _ _ _ _ => False) F (hr.mono (Nat.le_succ _)) hb (noneAt hP hw σ) I (.cons rfl (.cons rfl .nil)) q) (fun _ _ z => back_ep z) fun _ _ z => z
def rOwnS (Cs : List Addr) (sp : Sp) : R2 := fun v w H Q => ∃ a z C dx fs, v = .ref a ∧ w = .str z ∧ C ∈ Cs ∧ H a = some (.ins C dx fs) ∧ sp [.ref a, .str z] H Q fun _ _ _ => False
theorem o_ownCmpS {op : CmpOp} {nm : Str} (hop : ∀ (A : Around) (Q E) (s : Shared) (a b : Value), wpAny (model X.prog X.w) A (richCompare op a b) Q E s → wpAny (model X.prog X.w) A (compareOp op a b) Q E s) (hP : X.prog = P) (hw : X.w = w) (fm : Fam X.K nm f Cs) (hn : nm = (cmpInfo op).2.1) (F : FnOk X.prog X.w X.K X.mg X.base (L2N.CX P w) k f fd ps sp) (hr : Room (k + 1) X.A) (hb : Binds X.K fd ps []) :
    OpR X (compareOp op) (rOwnS Cs sp) := by
  intro pins s σ H x y v u Q I rx ry h
  obtain ⟨a, z, C, dx, fs, rfl, rfl, hC, ea, q⟩ := h
  obtain rfl : v = .ref a := rx
  obtain ⟨tk, rfl⟩ : ∃ t, u = .str z t := ry
  obtain ⟨oa, Ja⟩ := instAt I ea
  obtain ⟨mm, fr⟩ := I.fr
  subst hn
  refine hop _ _ _ _ _ _ (PySem.W.cmp_K (tb := .type "str") (by have := hr.units; omega) fr I.ok.mod.kin Ja (PySem.W.Looks.of_pure rfl) (by unfold PySem.W.notFirst; rw [show PySem.W.subIn X.K (.type "str") (.ref C) = some false from rfl]; simp) (fm.me C hC).at_ (fm.me C hC).fn ?_)
  exact wpAny_mono (run_fnS (us := [.ref a, .str z tk]) (vs := [.ref a, .str z]) (E := fun _ _ _ _ => False) F (hr.mono (Nat.le_succ _)) hb (noneAt hP hw σ) I (.cons rfl (.cons ⟨tk, rfl⟩ .nil)) q) (fun _ _ z => back_ep z) fun _ _ z => z
def oOwnS (Cs : List Addr) (c : Con) : R2T := fun x y h Q => match insOf h x, y with
  | some (C1, _), .str _ => C1 ∈ Cs ∧ c [x, y] h Q fun _ _ => False
  | _, _ => False
theorem p_ownS {K : PySem.W.Frag} {c : Con} : OP K (rOwnS Cs (liftSp K 2 c)) (oOwnS Cs c) := fun S H h v w x y Q Q' m r1 r2 q pk => by
  unfold oOwnS at q
  split at q
  · rename_i C1 g1 z e1
    obtain ⟨h1, q⟩ := q
    obtain ⟨a, dx, fs, rfl, ea, _⟩ := insOf_ok m r1 e1
    cases r2
    exact ⟨a, z, C1, dx, fs, rfl, rfl, h1, ea, S, h, [x, .str z], Q, _, m, .cons r1 (.cons (.str z) .nil), rfl, q, pk, fun _ _ _ _ _ _ _ _ _ z => z.elim⟩
  · exact q.elim
end
end TL

set_option maxHeartbeats 4000000
namespace TL
open PySem PySem.Spec PyProof.Rows L2
section
variable {X : Cx} {k n : Nat} {f C : Addr} {fd : FuncData} {ps : List Str} {sp : Sp} {a : Addr} {oe : Obj} {pn : List (Addr × Obj)}
end
end TL

set_option maxHeartbeats 4000000
namespace TL
open PySem PySem.Spec PyProof.Rows L2
abbrev Quiet (A : Around) : Prop := A.guards = some []
structure FnOkG (P : Program) (w : World) (K : PySem.W.Frag) (mg : Str → Option Value) (base : Heap) (k : Nat) (f : Addr) (fd : FuncData) (ps : List Str) (sp : Sp) : Prop where
  ln : ∀ {vs : List V} {H : Hp} {Q : VK} {E : XK}, sp vs H Q E → vs.length = ps.length
  go : ∀ {A : Around} {outer : List Env} {s : Shared} {H : Hp} {args : Args} {us : List Value} {vs : List V} {Q : VK} {E : XK},
    Room k A → Quiet A → Env0 P w K mg base A outer s H → BindsTo s fd args (ps.zip us) → Vals vs us → sp vs H Q E → codeAny (model P w) A (.call (.ref f) args) (CR (L2N.CX P w) outer P w H s Q E) s
section
variable {P : Program} {w : World} {K : PySem.W.Frag} {mg : Str → Option Value} {base : Heap} {k : Nat} {x qual : Str} {st : Stmt} {f : Addr} {fd : FuncData} {N ps : List Str} {sp : Sp}
end
section
variable {X : Cx} {W : WX} {k n : Nat} {f : Addr} {fd : FuncData} {ps : List Str} {sp : Sp} {x : Str} {q pos : Pos} {e : Expr} {es : List Expr} {t : TA}
end
end TL

set_option maxHeartbeats 4000000
namespace TL
open PySem PySem.Spec PyProof.Rows L2
end TL

namespace TL
open PySem L2
section
variable {K : PySem.W.Frag} {S : Fz} {H : Hp} {h : Hq}
end
end TL

namespace TL
open PySem L2
section
variable {K : PySem.W.Frag}
end
end TL

namespace TL
open PySem L2
section
variable {K : PySem.W.Frag}
def isSt : T → Hq → Prop := fun x _ => ∃ z, x = .str z
theorem ty_str : TyOk K "str" isSt := fun S H h v x m r k => by
  obtain ⟨z, rfl⟩ := k
  cases r
  rfl
theorem strs_rep {S : Fz} {H : Hp} : ∀ {ys : List Str} {vs : List V}, RepL K S H vs (ys.map T.str) → vs = ys.map V.str
  | [], _, .nil => rfl
  | y :: ys, _, .cons r q => by
    cases r
    rw [strs_rep q]
    rfl
def oJoin : MT := fun x xs h Q => ∃ (z : Str) (t : T) (ys : List Str), x = .str z ∧ xs = [t] ∧ lsOf h t = some (ys.map T.str) ∧ (ys.map (·.length)).sum + ys.length * z.length ≤ 16777216 ∧ Q (.str (Txt.join z ys)) h
theorem c_join : MR K (fun x xs H Q => ∃ a p, ∃ ys : List Str, x = V.str a ∧ xs = [V.ref p] ∧ (SqL K H p (ys.map V.str) ∨ SqT K H p (ys.map V.str)) ∧ (ys.map (·.length)).sum + ys.length * a.length ≤ 16777216 ∧ Q (.str (Txt.join a ys)) H) oJoin := fun S H h v vs x xs Q Q' m r1 r2 q pk => by
  obtain ⟨z, t, ys, rfl, rfl, e, hl, q⟩ := q
  cases r1
  cases r2 with
  | cons ry rn =>
    cases rn
    obtain ⟨a, us, rfl, ha, r⟩ := lsOf_ok m ry e
    obtain rfl := strs_rep r
    exact ⟨z, a, ys, rfl, rfl, .inl (SqL.of ha), hl, pk S H h _ _ Fut.refl m (.str _) q⟩
end
end TL

set_option maxHeartbeats 1000000
namespace TL
open PySem L2
section
variable {X : Cx} {K : PySem.W.Frag} {C : Addr}
end
section
variable {K : PySem.W.Frag} {S : Fz} {H : Hp} {h : Hq}
end
section
variable {K : PySem.W.Frag} {S : Fz} {H : Hp} {h : Hq}
end
def kD : Key → Option PyData
  | .inl i => if i.natAbs.log2 < 1920 then some (.int i) else none
  | .inr x => some (.str x)
def pD {α : Type} (f : α → Option PyData) : List (Key × α) → Option (List (PyData × PyData))
  | [] => some []
  | (k, v) :: r => match kD k, f v, pD f r with
    | some a, some b, some c => some ((a, b) :: c)
    | _, _, _ => none
section
variable {X : Cx}
end
end TL

namespace TL
open PySem L2
theorem cr_or {X : Cx} {f : Value} {r1 r2 : List V → Hp → VK → Prop} (h1 : CallR X f r1) (h2 : CallR X f r2) : CallR X f (fun xs H Q => r1 xs H Q ∨ r2 xs H Q) := fun pins s σ H xs us Q I rs h => h.elim (h1 pins s σ H xs us Q I rs) (h2 pins s σ H xs us Q I rs)
section
variable {X : Cx} {W : WX} {K : PySem.W.Frag}
def oStrC : RLT := fun xs h Q => match xs with
  | [.int i] => i.natAbs.log2 < 1920 ∧ Q (.str (toString i)) h
  | [.str z] => Q (.str z) h
  | _ => False
theorem c_strC : CP K (fun xs H Q => (∃ i : Int, xs = [V.int i] ∧ i.natAbs.log2 < 1920 ∧ Q (.str (toString i)) H) ∨ ∃ a, xs = [V.str a] ∧ Q (.str a) H) oStrC := fun S H h vs xs Q Q' m r q pk => by
  unfold oStrC at q
  split at q
  · cases r with
    | cons r1 rn => cases rn; cases r1; exact .inl ⟨_, rfl, q.1, pk S H h _ _ Fut.refl m (.str _) q.2⟩
  · cases r with
    | cons r1 rn => cases rn; cases r1; exact .inr ⟨_, rfl, pk S H h _ _ Fut.refl m (.str _) q⟩
  · exact q.elim
def eFmt (a : EM) : EM := fun s h Q E => a s h (fun x h1 => match x with
  | .str z => z.length ≤ lim ∧ Q (.str z) h1
  | .int i => i.natAbs.log2 < 1920 ∧ Q (.str (toString i)) h1
  | _ => False) E
theorem j_fmt {e : Expr} {m : EM} {pos : Pos} (he : JE X W e m) : JE X W (.FormattedValue e (-1) none pos) (eFmt m) := PE.wk (pe_fmt he) fun σ H Q' ⟨S, h, s, Q, E, m, rs, lk, hm, pk⟩ =>
  ⟨S, h, s, _, E, m, rs, lk, hm, fun S1 H1 h1 v x f1 m1 r1 q1 => by
    split at q1
    · cases r1; exact .inl ⟨_, rfl, lim_le q1.1, pk S1 H1 h1 _ _ f1 m1 (.str _) q1.2⟩
    · cases r1; exact .inr ⟨_, rfl, q1.1, pk S1 H1 h1 _ _ f1 m1 (.str _) q1.2⟩
    · exact q1.elim⟩
def mJs : List EM → Str → Sl → Hq → (Str → Hq → Prop) → EX → Prop
  | [], acc, _, h, Q, _ => Q acc h
  | m :: ms, acc, s, h, Q, E => m s h (fun x h1 => match x with
    | .str y => acc.length + y.length ≤ lim ∧ mJs ms (acc ++ y) s h1 Q E
    | _ => False) E
def eJs (ms : List EM) : EM := fun s h Q E => mJs ms Str.empty s h (fun out h1 => Q (.str out) h1) E
theorem lift_js : ∀ (ms : List EM) (acc : Str) (S : Fz) (H : Hp) (h : Hq) (s : Sl) (σ : L2.St) (Q : Str → Hq → Prop) (Q' : Str → Hp → Prop) (E : EX), Sim K S H h → RepS K S H σ s → LkX K W S H E → mJs ms acc s h Q E →
    (∀ S1 H1 h1 out, Fut S H S1 H1 → Sim K S1 H1 h1 → Q out h1 → Q' out H1) → tJs (ms.map (liftE K W)) acc σ H Q'
  | [], acc, S, H, h, s, σ, Q, Q', E, m, rs, lk, hm, pk => pk S H h acc Fut.refl m hm
  | e :: ms, acc, S, H, h, s, σ, Q, Q', E, m, rs, lk, hm, pk => ⟨S, h, s, _, E, m, rs, lk, hm, fun S1 H1 h1 v x f1 m1 r1 q1 => by
    split at q1
    · rename_i y
      cases r1
      exact ⟨y, rfl, lim_le (by show (acc ++ y).length ≤ lim; rw [show (acc ++ y).length = acc.length + y.length from strLen_append acc y]; exact q1.1), lift_js ms (acc ++ y) S1 H1 h1 s σ Q Q' E m1 (rs.fut f1) (lk.fut f1) q1.2 fun S2 H2 h2 out f2 => pk S2 H2 h2 out (f1.trans f2)⟩
    · exact q1.elim⟩
theorem j_js {v1 v2 : Expr} {rest : List Expr} {ms : List EM} {pos : Pos} (hj : PJ X (v1 :: v2 :: rest) (ms.map (liftE X.K W))) : JE X W (.JoinedStr (v1 :: v2 :: rest) pos) (eJs ms) := PE.wk (pe_joined hj) fun σ H Q' ⟨S, h, s, Q, E, m, rs, lk, hm, pk⟩ =>
  lift_js ms Str.empty S H h s σ _ _ E m rs lk hm fun S1 H1 h1 out f1 m1 q1 => pk S1 H1 h1 _ _ f1 m1 (.str out) q1
theorem pj_c {e : Expr} {m : EM} {es : List Expr} {ms : List EM} (he : JE X W e m) (hr : PJ X es (ms.map (liftE X.K W))) : PJ X (e :: es) ((m :: ms).map (liftE X.K W)) := .cons he hr
theorem pj_n : PJ X [] (([] : List EM).map (liftE X.K W)) := .nil
end
section
variable {s : Sl} {h : Hq} {E : EX}
theorem ev_strIU {a : EM} {i : Int} (ha : Ev s h E a (.int i)) (l : i.natAbs.log2 < 1920) : Ev s h E (eCB oStrC (aCons a aNil)) (.str (toString i)) := fun Q q => ha _ ⟨l, q⟩
theorem ev_strSU {a : EM} {z : Str} (ha : Ev s h E a (.str z)) : Ev s h E (eCB oStrC (aCons a aNil)) (.str z) := fun Q q => ha _ q
theorem ev_catU {fl : Bool} {x y : EM} {a b : Str} (hx : Ev s h E x (.str a)) (hy : Ev s h E y (.str b)) (l : a.length + b.length ≤ lim) : Ev s h E (eOp (oAdd fl) x y) (.str (a ++ b)) := ev_op hx hy fun Q q => ⟨l, q⟩
theorem ev_ixU {a b : EM} {z : Str} {i : Int} {c : Nat} (ha : Ev s h E a (.str z)) (hb : Ev s h E b (.int i)) (l : z.length ≤ lim) (e : atI z.cps.toList i = some c) : Ev s h E (eOp oIx a b) (.str ⟨#[c]⟩) := ev_op ha hb fun Q q => by
  refine ⟨l, ?_⟩
  rw [e]
  exact q
theorem ev_joinU {x y : EM} {w : Str} {t : T} {ys : List Str} (hx : Ev s h E x (.str w)) (hy : Ev s h E y t) (e : lsOf h t = some (ys.map T.str)) (l : (ys.map (·.length)).sum + ys.length * w.length ≤ 16777216) : Ev s h E (eBM isSt oJoin x (aCons y aNil)) (.str (Txt.join w ys)) := fun Q q => hx _ ⟨⟨w, rfl⟩, hy _ ⟨w, t, ys, rfl, rfl, e, l, q⟩⟩
theorem ev_fmtIU {a : EM} {i : Int} (ha : Ev s h E a (.int i)) (l : i.natAbs.log2 < 1920) : Ev s h E (eFmt a) (.str (toString i)) := fun Q q => ha _ ⟨l, q⟩
theorem ev_fmtSU {a : EM} {z : Str} (ha : Ev s h E a (.str z)) (l : z.length ≤ lim) : Ev s h E (eFmt a) (.str z) := fun Q q => ha _ ⟨l, q⟩
end
end TL

set_option maxHeartbeats 4000000
namespace TL
open PySem PySem.Spec PyProof.Rows L2
section
variable {X : Cx}
end
end TL

set_option maxHeartbeats 1000000
namespace TL
open PySem L2
theorem strOk_app (x y : Str) : PyData.strOk (x ++ y) = (PyData.strOk x && PyData.strOk y) := by
  show (x.cps ++ y.cps).all _ = _
  rw [Array.all_append]
  rfl
theorem len_app (x y : Str) : (x ++ y).length = x.length + y.length := strLen_append x y
def Sh (n : Nat) (x : Str) : Prop := x.length ≤ n ∧ PyData.strOk x = true
theorem Sh.app {n m : Nat} {x y : Str} (a : Sh n x) (b : Sh m y) : Sh (n + m) (x ++ y) := ⟨by rw [len_app]; exact Nat.add_le_add a.1 b.1, by rw [strOk_app, a.2, b.2]; rfl⟩
theorem Sh.le {n m : Nat} {x : Str} (a : Sh n x) (h : n ≤ m) : Sh m x := ⟨Nat.le_trans a.1 h, a.2⟩
theorem Sh.of (s : String) (n : Nat) (h : (s : Str).length ≤ n) : Sh n (s : Str) := ⟨h, strOk_of s⟩
theorem int_sh {i : Int} (h1 : -2 ≤ i) (h2 : i ≤ 400) : Sh 5 ((toString i : String) : Str) := by
  have key : ∀ n : Nat, n < 403 → ((toString ((n : Int) - 2) : String) : Str).length ≤ 5 := by decide +kernel
  have := key (i + 2).toNat (by omega)
  rw [show (((i + 2).toNat : Nat) : Int) - 2 = i by omega] at this
  exact ⟨this, strOk_of _⟩
end TL

set_option maxHeartbeats 4000000
namespace TL
open PySem PySem.Spec PyProof.Rows L2
section
variable {X : Cx} {K : PySem.W.Frag} {C : Addr}
end
end TL

namespace GB
def part (t b h : Int) : Int := -(-h * t / b)
structure Ok (f r t b : Int) : Prop where
  f1 : 1 ≤ f
  fr : f ≤ r
  r1 : r ≤ 10 ^ 30
  t1 : 1 ≤ t
  t2 : t ≤ 100
  b1 : 1 ≤ b
  b2 : b ≤ 100
def step (f r t b h : Int) : Int := if part t b h < f then f else if part t b h < r then part t b h else r
def E (f r t b : Int) : Nat → Int
  | 0 => 0
  | n + 1 => E f r t b n + step f r t b (E f r t b n)
structure Ramp (f r t b : Int) (n : Nat) : Prop where
  top : r ≤ step f r t b (E f r t b n)
  low : ∀ i, i < n → step f r t b (E f r t b i) < r
  few : n ≤ 20000
theorem part_mono {t b h h' : Int} (ht : 0 ≤ t) (hb : 0 < b) (l : h ≤ h') : part t b h ≤ part t b h' := by
  unfold part
  have h1 : -h' * t ≤ -h * t := Int.mul_le_mul_of_nonneg_right (by omega) ht
  have := Int.ediv_le_ediv hb h1
  omega
theorem part_up {t b h : Int} (hb : 0 < b) : h * t ≤ part t b h * b := by
  unfold part
  have h1 := Int.ediv_mul_le (-h * t) (Int.ne_of_gt hb)
  have h2 : -(-h * t / b) * b = -(-h * t / b * b) := Int.neg_mul ..
  have h3 : -h * t = -(h * t) := Int.neg_mul ..
  rw [h2]
  rw [h3] at h1 ⊢
  omega
section
variable {f r t b : Int} (o : Ok f r t b)
include o
theorem step_ge (h : Int) : f ≤ step f r t b h := by
  have := o.fr
  unfold step
  split
  · omega
  · split <;> omega
theorem step_pos (h : Int) : 1 ≤ step f r t b h := Int.le_trans o.f1 (step_ge o h)
theorem step_le (h : Int) : step f r t b h ≤ r := by
  have := o.fr
  unfold step
  split
  · omega
  · split <;> omega
theorem step_mono {h h' : Int} (l : h ≤ h') : step f r t b h ≤ step f r t b h' := by
  have := part_mono (t := t) (b := b) (by have := o.t1; omega) (by have := o.b1; omega) l
  have := o.fr
  unfold step
  split <;> split <;> (try split) <;> (try split) <;> omega
theorem E_succ (n : Nat) : E f r t b (n + 1) = E f r t b n + step f r t b (E f r t b n) := rfl
theorem E_lt (n : Nat) : E f r t b n < E f r t b (n + 1) := by
  have := step_pos o (E f r t b n)
  rw [E_succ o]; omega
theorem E_mono {i j : Nat} (l : i ≤ j) : E f r t b i ≤ E f r t b j := by
  induction j with
  | zero => have : i = 0 := by omega
            subst this; exact Int.le_refl _
  | succ j ih =>
    by_cases c : i = j + 1
    · subst c; exact Int.le_refl _
    · have := ih (by omega)
      have := E_lt o j
      omega
theorem E_strict {i j : Nat} : E f r t b i < E f r t b j ↔ i < j := by
  constructor
  · intro l
    by_cases c : i < j
    · exact c
    · have := E_mono o (show j ≤ i by omega)
      omega
  · intro l
    have h1 := E_lt o i
    have h2 := E_mono o (show i + 1 ≤ j by omega)
    omega
theorem E_nonneg (n : Nat) : 0 ≤ E f r t b n := E_mono o (Nat.zero_le n)
theorem E_ge (n : Nat) : (n : Int) ≤ E f r t b n := by
  induction n with
  | zero => exact Int.le_refl _
  | succ n ih => have := E_lt o n; omega
theorem E_top {n : Nat} (h : r ≤ step f r t b (E f r t b n)) : ∀ k : Nat, E f r t b (n + k) = E f r t b n + k * r ∧ step f r t b (E f r t b (n + k)) = r
  | 0 => ⟨by simp, Int.le_antisymm (step_le o _) h⟩
  | k + 1 => by
    obtain ⟨h1, h2⟩ := E_top h k
    have e : E f r t b (n + (k + 1)) = E f r t b n + ((k + 1 : Nat) : Int) * r := by
      show E f r t b (n + k) + step f r t b (E f r t b (n + k)) = _
      rw [h2, h1, Int.natCast_add, Int.add_mul]
      omega
    refine ⟨e, Int.le_antisymm (step_le o _) ?_⟩
    exact Int.le_trans h (step_mono o (E_mono o (by omega)))
theorem low_grow {i : Nat} (h : step f r t b (E f r t b i) < r) : E f r t b i ≤ 100 * step f r t b (E f r t b i) ∧ E f r t b i ≤ 10 ^ 32 := by
  have h0 := E_nonneg o i
  have hb := o.b1
  have hb2 := o.b2
  have ht := o.t1
  have hr := o.r1
  have hf := o.f1
  have hs : part t b (E f r t b i) ≤ step f r t b (E f r t b i) := by
    revert h
    unfold step
    split
    · omega
    · split <;> omega
  have hu := part_up (t := t) (h := E f r t b i) (show 0 < b by omega)
  have h1 : E f r t b i ≤ E f r t b i * t := by
    have := Int.mul_le_mul_of_nonneg_left (c := E f r t b i) ht h0
    omega
  have sp := step_pos o (E f r t b i)
  have h2 : part t b (E f r t b i) * b ≤ step f r t b (E f r t b i) * b := Int.mul_le_mul_of_nonneg_right hs (by omega)
  have h3 : step f r t b (E f r t b i) * b ≤ step f r t b (E f r t b i) * 100 := Int.mul_le_mul_of_nonneg_left hb2 (by omega)
  have e32 : (10 : Int) ^ 32 = 10 ^ 30 * 100 := by decide
  refine ⟨by omega, ?_⟩
  rw [e32]
  omega
theorem low_double {n : Nat} (h : ∀ i, i < n → step f r t b (E f r t b i) < r) (i : Nat) : ∀ k : Nat, i + k ≤ n → 100 * E f r t b i + k * E f r t b i ≤ 100 * E f r t b (i + k)
  | 0, _ => by simp
  | k + 1, hk => by
    have ih := low_double h i k (by omega)
    have g := (low_grow o (h (i + k) (by omega))).1
    have m := E_mono o (show i ≤ i + k by omega)
    show _ ≤ 100 * (E f r t b (i + k) + step f r t b (E f r t b (i + k)))
    rw [Int.natCast_add, Int.add_mul]
    omega
theorem low_pow {n : Nat} (h : ∀ i, i < n → step f r t b (E f r t b i) < r) : ∀ k : Nat, 100 * (k + 1) ≤ n → 100 * 2 ^ k ≤ E f r t b (100 * (k + 1))
  | 0, _ => by
    have := E_ge o 100
    show (100 * 1 : Int) ≤ E f r t b 100
    omega
  | k + 1, hk => by
    have ih := low_pow h k (by omega)
    have d := low_double o h (100 * (k + 1)) 100 (by omega)
    have e : 100 * (k + 1) + 100 = 100 * (k + 1 + 1) := by omega
    rw [e] at d
    have e2 : (2 : Int) ^ (k + 1) = 2 ^ k * 2 := Int.pow_succ ..
    rw [e2]
    generalize (2 : Int) ^ k = z at *
    omega
theorem low_few {n : Nat} (h : ∀ i, i < n → step f r t b (E f r t b i) < r) : n ≤ 20000 := by
  by_cases c : n ≤ 20000
  · exact c
  · have p := low_pow o h 100 (by omega)
    have g := (low_grow o (h (100 * (100 + 1)) (by omega))).2
    have e : ¬ ((100 : Int) * 2 ^ 100 ≤ 10 ^ 32) := by decide
    exact absurd (Int.le_trans p g) e
end

section
variable {f r t b : Int} (o : Ok f r t b)
include o
structure Inv (s : Int × Int × Int) (m : Nat) : Prop where
  eq : s.2.2 = m
  ho : E f r t b m ≤ s.2.1
  sz : s.1 ≤ s.2.1
  le : ∀ i, i < m → E f r t b i < s.1
  id : s.2.1 - s.1 ≤ if s.1 = 0 then 0 else if f < s.1 then step f r t b (s.1 - 1) - 1 else f - s.1
  z : 0 ≤ s.1
  z0 : s.2.1 = 0 ∨ f ≤ s.2.1
end
section
variable {f r t b : Int} (o : Ok f r t b)
include o
theorem count_low {n : Nat} {k : Int} (hk : k ≤ E f r t b n) : ∃ g, g ≤ n ∧ ∀ i, E f r t b i < k ↔ i < g := by
  induction n with
  | zero => exact ⟨0, Nat.le_refl _, fun i => ⟨fun h => by have := E_mono o (Nat.zero_le i); omega, fun h => absurd h (Nat.not_lt_zero _)⟩⟩
  | succ n ih =>
    by_cases c : k ≤ E f r t b n
    · obtain ⟨g, h1, h2⟩ := ih c
      exact ⟨g, by omega, h2⟩
    · refine ⟨n + 1, Nat.le_refl _, fun i => ⟨fun h => ?_, fun h => ?_⟩⟩
      · exact (E_strict o).mp (Int.lt_of_lt_of_le h hk)
      · have := E_mono o (show i ≤ n by omega)
        omega
theorem count_len {n g : Nat} {k : Int} (hg : g ≤ n + 1) (h : ∀ i, E f r t b i < k ↔ i < g) : ((List.range (n + 1)).filter fun i => decide (E f r t b i < k)).length = g := by
  have e : ((List.range (n + 1)).filter fun i => decide (E f r t b i < k)) = (List.range (n + 1)).filter fun i => decide (i < g) := by
    apply List.filter_congr
    intro i _
    have := h i
    by_cases c : i < g
    · rw [decide_eq_true c, decide_eq_true (this.mpr c)]
    · rw [decide_eq_false c, decide_eq_false (fun z => c (this.mp z))]
  rw [e]
  have : n + 1 = g + (n + 1 - g) := by omega
  rw [this, List.range_add, List.filter_append]
  have e1 : (List.range g).filter (fun i => decide (i < g)) = List.range g := List.filter_eq_self.mpr fun i hi => decide_eq_true (List.mem_range.mp hi)
  have e2 : ((List.range (n + 1 - g)).map fun x => g + x).filter (fun i => decide (i < g)) = [] := by
    rw [List.filter_eq_nil_iff]
    intro i hi
    obtain ⟨j, _, rfl⟩ := List.mem_map.mp hi
    simp
  rw [e1, e2]
  simp
theorem count_top {n : Nat} (R : r ≤ step f r t b (E f r t b n)) {k : Int} (hk : E f r t b n < k) (i : Nat) : E f r t b i < k ↔ i < n + 1 + ((k - E f r t b n - 1) / r).toNat := by
  have hr : 0 < r := by have := o.f1; have := o.fr; omega
  have q0 : 0 ≤ (k - E f r t b n - 1) / r := Int.ediv_nonneg (by omega) (by omega)
  by_cases c : i ≤ n
  · have := E_mono o c
    constructor <;> intro _ <;> omega
  · obtain ⟨j, rfl⟩ : ∃ j, i = n + j := ⟨i - n, by omega⟩
    rw [(E_top o R j).1]
    have key : (j : Int) ≤ (k - E f r t b n - 1) / r ↔ (j : Int) * r ≤ k - E f r t b n - 1 := Int.le_ediv_iff_mul_le hr
    constructor
    · intro h
      have := key.mpr (by omega)
      omega
    · intro h
      have := key.mp (by omega)
      omega
end
def nxt (row : List Int) : List (List Int) := [row ++ [1]] ++ (if row = [] then [] else [row.dropLast ++ [row.getLastD 0 + 1]])
noncomputable def G (f r t b k : Int) : Nat := by
  classical
  exact if h : ∃ g : Nat, ∀ i, E f r t b i < k ↔ i < g then h.choose else 0
def End (f r t b k : Int) : Prop := ∃ i, E f r t b i = k
section
variable {f r t b : Int} (o : Ok f r t b)
include o
end
structure Miss (f r t b f' r' t' b' : Int) (i : Nat) : Prop where
  no : ¬ End f' r' t' b' (E f r t b i)
  yes : ∀ j, j < i → End f' r' t' b' (E f r t b j)
theorem Miss.uniq {f r t b f' r' t' b' : Int} {i j : Nat} (a : Miss f r t b f' r' t' b' i) (c : Miss f r t b f' r' t' b' j) : i = j := by
  by_cases h1 : i < j
  · exact absurd (c.yes i h1) a.no
  · by_cases h2 : j < i
    · exact absurd (a.yes j h2) c.no
    · omega
section
variable {f r t c : Int} (o : Ok f r t 1) (hc : 1 ≤ c)
include o hc
end
end GB

namespace GR
section
variable {γ : Type}
inductive Pth (cs : List (Int × Int × γ)) : Nat → Int → Int → List γ → Prop
  | nil : Pth cs 0 0 0 []
  | skip {n : Nat} {x v : Int} {rs : List γ} : Pth cs n x v rs → Pth cs (n + 1) x v rs
  | take {n : Nat} {x v t i : Int} {rs : List γ} {g : γ} : (t, i, g) ∈ cs → Pth cs n x v rs → Pth cs (n + 1) (x + t) (v + i) (g :: rs)
def Best (cs : List (Int × Int × γ)) (n : Nat) (x v : Int) : Prop := (∃ rs, Pth cs n x v rs) ∧ ∀ v' rs', Pth cs n x v' rs' → v' ≤ v
theorem Best.uniq {cs : List (Int × Int × γ)} {n : Nat} {x v v' : Int} (a : Best cs n x v) (b : Best cs n x v') : v = v' := by
  obtain ⟨⟨rs, p⟩, m⟩ := a
  obtain ⟨⟨rs', p'⟩, m'⟩ := b
  have := m _ _ p'
  have := m' _ _ p
  omega
theorem zero_path (cs : List (Int × Int × γ)) : ∀ n, Pth cs n 0 0 []
  | 0 => .nil
  | n + 1 => .skip (zero_path cs n)
def PP (cs done : List (Int × Int × γ)) (n : Nat) (x v : Int) : Prop := (∃ rs, Pth cs n x v rs) ∨ ∃ t i g, (t, i, g) ∈ done ∧ ∃ rs, Pth cs n (x - t) (v - i) rs
theorem pp_all {cs : List (Int × Int × γ)} {n : Nat} {x v : Int} : PP cs cs n x v ↔ ∃ rs, Pth cs (n + 1) x v rs := by
  constructor
  · rintro (⟨rs, p⟩ | ⟨t, i, g, m, rs, p⟩)
    · exact ⟨rs, .skip p⟩
    · have := Pth.take m p
      rw [show x - t + t = x by omega, show v - i + i = v by omega] at this
      exact ⟨_, this⟩
  · rintro ⟨rs, p⟩
    cases p with
    | skip p => exact .inl ⟨_, p⟩
    | @take _ x v t i rs g m p => exact .inr ⟨t, i, g, m, rs, by rw [show x + t - t = x by omega, show v + i - i = v by omega]; exact p⟩
theorem pp_snoc {cs done : List (Int × Int × γ)} {c : Int × Int × γ} {n : Nat} {x v : Int} : PP cs (done ++ [c]) n x v ↔ PP cs done n x v ∨ ∃ rs, Pth cs n (x - c.1) (v - c.2.1) rs := by
  obtain ⟨t, i, g⟩ := c
  constructor
  · rintro (p | ⟨t', i', g', m, p⟩)
    · exact .inl (.inl p)
    · rcases List.mem_append.mp m with m | m
      · exact .inl (.inr ⟨t', i', g', m, p⟩)
      · have e : (t', i', g') = (t, i, g) := by simpa using m
        cases e
        exact .inr p
  · rintro ((p | ⟨t', i', g', m, p⟩) | p)
    · exact .inl p
    · exact .inr ⟨t', i', g', List.mem_append_left _ m, p⟩
    · exact .inr ⟨t, i, g, by simp, p⟩
theorem path_pos {cs : List (Int × Int × γ)} (hc : ∀ c ∈ cs, 0 ≤ c.1 ∧ 0 ≤ c.2.1 ∧ c.2.1 ≤ c.1) {n : Nat} {x v : Int} {rs : List γ} (p : Pth cs n x v rs) : 0 ≤ x ∧ 0 ≤ v ∧ v ≤ x := by
  induction p with
  | nil => omega
  | skip _ ih => exact ih
  | take m _ ih => have := hc _ m; dsimp only at this; omega
theorem path_x {cs : List (Int × Int × γ)} (hc : ∀ c ∈ cs, 0 ≤ c.1) {n : Nat} {x v : Int} {rs : List γ} (p : Pth cs n x v rs) : 0 ≤ x := by
  induction p with
  | nil => omega
  | skip _ ih => exact ih
  | take m _ ih => have := hc _ m; dsimp only at this; omega
theorem path_len {cs : List (Int × Int × γ)} {n : Nat} {x v : Int} {rs : List γ} (p : Pth cs n x v rs) : rs.length ≤ n := by
  induction p with
  | nil => exact Nat.le_refl _
  | skip _ ih => omega
  | take m _ ih => rw [List.length_cons]; omega
end

section
variable (f : Int) (st : Int → Int)
def WC (t i : Int) : Prop := (t = f ∧ i = f - 1) ∨ ∃ h, f ≤ h ∧ t = h + st h ∧ i = st h - 1
inductive Wv : Nat → Int → Int → Prop
  | nil (n : Nat) : Wv n 0 0
  | take {n : Nat} {x v t i : Int} : WC f st t i → Wv n x v → Wv (n + 1) (x + t) (v + i)
def Full (B : Int) (F : Nat) (v : Int) : Prop := (∃ x, x ≤ B ∧ Wv f st F x v) ∨
  ∃ F' hold many x w, F = F' + 1 ∧ (hold = 0 ∨ f ≤ hold) ∧ 1 ≤ many ∧ many ≤ st hold - 1 ∧ x + hold + many = B ∧ Wv f st F' x w ∧ v = w + (many - 1)
def IsMax (P : Int → Prop) (v : Int) : Prop := P v ∧ ∀ w, P w → w ≤ v
theorem IsMax.uniq {P : Int → Prop} {v w : Int} (a : IsMax P v) (b : IsMax P w) : v = w := by
  have := a.2 _ b.1
  have := b.2 _ a.1
  omega
variable {f st}
theorem Wv.succ {n : Nat} {x v : Int} (p : Wv f st n x v) : Wv f st (n + 1) x v := by
  induction p with
  | nil n => exact .nil _
  | take m _ ih => exact .take m ih
theorem Wv.zero {x v : Int} (p : Wv f st 0 x v) : x = 0 ∧ v = 0 := by
  cases p with
  | nil => exact ⟨rfl, rfl⟩
variable (f1 : 1 ≤ f) (s1 : ∀ h, 1 ≤ st h)
include f1 s1
theorem WC.pos {t i : Int} (c : WC f st t i) : 1 ≤ t ∧ 0 ≤ i ∧ i < t := by
  rcases c with ⟨rfl, rfl⟩ | ⟨h, h1, rfl, rfl⟩
  · omega
  · have := s1 h; omega
theorem Wv.pos {n : Nat} {x v : Int} (p : Wv f st n x v) : 0 ≤ x ∧ 0 ≤ v ∧ v ≤ x := by
  induction p with
  | nil n => omega
  | take m _ ih => have := m.pos f1 s1; omega
omit f1 s1 in
theorem wv_more {n m : Nat} {x v : Int} (l : n ≤ m) (p : Wv f st n x v) : Wv f st m x v := by
  induction l with
  | refl => exact p
  | step _ ih => exact ih.succ
omit f1 s1 in
theorem full_ones {B v : Int} {F : Nat} (h1 : ∀ h, st h = 1) (hf : f = 1) (h : Full f st B F v) : v = 0 := by
  have w0 : ∀ {n x v}, Wv f st n x v → v = 0 := fun p => by
    induction p with
    | nil => rfl
    | take m _ ih =>
      rcases m with ⟨_, rfl⟩ | ⟨hd, _, _, rfl⟩
      · omega
      · rw [h1]; omega
  rcases h with ⟨x, _, p⟩ | ⟨F', hold, many, x, w, _, _, m1, m2, _, p, rfl⟩
  · exact w0 p
  · rw [h1] at m2; omega
end

structure CsOk {γ : Type} (f : Int) (st : Int → Int) (B : Int) (cs : List (Int × Int × γ)) : Prop where
  ok : ∀ c ∈ cs, WC f st c.1 c.2.1 ∧ c.1 ≤ B
  all : ∀ t i, WC f st t i → t ≤ B → ∃ i' g, (t, i', g) ∈ cs ∧ i ≤ i'
section
variable {γ : Type} {f : Int} {st : Int → Int} {B : Int} {cs : List (Int × Int × γ)}
theorem CsOk.wv (c : CsOk f st B cs) {n : Nat} {x v : Int} {rs : List γ} (p : Pth cs n x v rs) : Wv f st n x v := by
  induction p with
  | nil => exact .nil 0
  | skip _ ih => exact ih.succ
  | take m _ ih => exact .take (c.ok _ m).1 ih
theorem CsOk.path (c : CsOk f st B cs) (f1 : 1 ≤ f) (s1 : ∀ h, 1 ≤ st h) {n : Nat} {x v : Int} (p : Wv f st n x v) : x ≤ B → ∃ v' rs, v ≤ v' ∧ Pth cs n x v' rs := by
  induction p with
  | nil n => exact fun _ => ⟨0, [], Int.le_refl _, zero_path cs n⟩
  | @take n x v t i m p ih =>
    intro hx
    have h1 := m.pos f1 s1
    have h2 := p.pos f1 s1
    obtain ⟨v', rs, l, q⟩ := ih (by omega)
    obtain ⟨i', g, hm, li⟩ := c.all t i m (by omega)
    exact ⟨v' + i', g :: rs, by omega, .take hm q⟩
end
section
variable {γ : Type}
def lookC (cs : List (Int × Int × γ)) (t : Int) : Option (Int × γ) := (cs.find? fun c => decide (c.1 = t)).map (·.2)
def putC (cs : List (Int × Int × γ)) (t i : Int) (g : γ) : List (Int × Int × γ) := if (cs.any fun c => decide (c.1 = t)) = true then cs.map (fun c => if c.1 = t then (c.1, i, g) else c) else cs ++ [(t, i, g)]
theorem mem_putC {cs : List (Int × Int × γ)} {t i : Int} {g : γ} {c : Int × Int × γ} (h : c ∈ putC cs t i g) : c = (t, i, g) ∨ c ∈ cs := by
  unfold putC at h
  split at h
  · obtain ⟨d, hd, e⟩ := List.mem_map.mp h
    split at e
    · rename_i q; subst q; exact .inl e.symm
    · subst e; exact .inr hd
  · rcases List.mem_append.mp h with h | h
    · exact .inr h
    · exact .inl (by simpa using h)
theorem look_mem {cs : List (Int × Int × γ)} {t i : Int} {g : γ} (h : lookC cs t = some (i, g)) : (t, i, g) ∈ cs := by
  unfold lookC at h
  cases e : cs.find? fun c => decide (c.1 = t) with
  | none => rw [e] at h; cases h
  | some c =>
    rw [e] at h
    obtain ⟨c1, c2⟩ := c
    have h1 := List.find?_some e
    have h2 := List.mem_of_find?_eq_some e
    have : c1 = t := by simpa using h1
    subst this
    cases h
    exact h2
theorem look_put {cs : List (Int × Int × γ)} {t i : Int} {g : γ} (t' : Int) : lookC (putC cs t i g) t' = if t' = t then some (i, g) else lookC cs t' := by
  unfold putC
  split
  · rename_i ha
    induction cs with
    | nil => simp at ha
    | cons c cs ih =>
      unfold lookC at ih ⊢
      rw [List.map_cons, List.find?_cons, List.find?_cons]
      by_cases ct : c.1 = t
      · rw [if_pos ct]
        by_cases e : t' = t
        · rw [if_pos e]
          simp [ct, e]
        · rw [if_neg e]
          have n1 : ¬ c.1 = t' := fun z => e (z.symm.trans ct)
          simp only [n1, decide_false]
          by_cases ha2 : (cs.any fun c => decide (c.1 = t)) = true
          · have := ih ha2
            rw [if_neg e] at this
            exact this
          · have : cs.map (fun c => if c.1 = t then (c.1, i, g) else c) = cs := by
              rw [List.map_congr_left (g := id)]
              · simp
              · intro d hd
                rw [if_neg]
                · rfl
                · intro z
                  exact ha2 (List.any_eq_true.mpr ⟨d, hd, decide_eq_true z⟩)
            rw [this]
      · rw [if_neg ct]
        have ha2 : (cs.any fun c => decide (c.1 = t)) = true := by
          rw [List.any_cons] at ha
          simpa [ct] using ha
        have := ih ha2
        by_cases e : c.1 = t'
        · have n : ¬ t' = t := fun z => ct (e.trans z)
          rw [if_neg n]
          simp [e]
        · simp only [e, decide_false]
          exact this
  · rename_i ha
    unfold lookC
    rw [List.find?_append]
    by_cases e : t' = t
    · subst e
      rw [if_pos rfl]
      have : (cs.find? fun c => decide (c.1 = t')) = none := by
        rw [List.find?_eq_none]
        intro d hd z
        exact ha (List.any_eq_true.mpr ⟨d, hd, z⟩)
      rw [this]
      simp
    · rw [if_neg e]
      have : ¬ t = t' := fun z => e z.symm
      simp [this]
end
def TOk (P : Int → Int → Prop) (ms : List (Int × Int × Unit)) : Prop := ∀ x, (∃ v, lookC ms x = some (v, ()) ∧ P x v ∧ ∀ v', P x v' → v' ≤ v) ∨ (lookC ms x = none ∧ ∀ v, ¬ P x v)
section
variable {P P' : Int → Int → Prop} {ms : List (Int × Int × Unit)}
theorem TOk.put (h : TOk P ms) {x0 v0 : Int} (hp : ∀ x v, P' x v ↔ P x v ∨ (x = x0 ∧ v = v0)) (lt : ∀ v, lookC ms x0 = some (v, ()) → v ≤ v0) : TOk P' (putC ms x0 v0 ()) := by
  intro x
  rw [look_put]
  by_cases c : x = x0
  · subst c
    rw [if_pos rfl]
    refine .inl ⟨v0, rfl, (hp _ _).mpr (.inr ⟨rfl, rfl⟩), fun v' z => ?_⟩
    rcases (hp _ _).mp z with z | ⟨_, z⟩
    · rcases h x with ⟨v, e, _, m⟩ | ⟨_, n⟩
      · have := lt v e; have := m v' z; omega
      · exact absurd z (n v')
    · omega
  · rw [if_neg c]
    rcases h x with ⟨v, e, p, m⟩ | ⟨e, n⟩
    · refine .inl ⟨v, e, (hp _ _).mpr (.inl p), fun v' z => ?_⟩
      rcases (hp _ _).mp z with z | ⟨z, _⟩
      · exact m v' z
      · exact absurd z c
    · refine .inr ⟨e, fun v z => ?_⟩
      rcases (hp _ _).mp z with z | ⟨z, _⟩
      · exact n v z
      · exact absurd z c
theorem TOk.keep (h : TOk P ms) {x0 v0 : Int} (hp : ∀ x v, P' x v ↔ P x v ∨ (x = x0 ∧ v = v0)) (ge : ∃ v, lookC ms x0 = some (v, ()) ∧ v0 ≤ v) : TOk P' ms := by
  intro x
  rcases h x with ⟨v, e, p, m⟩ | ⟨e, n⟩
  · refine .inl ⟨v, e, (hp _ _).mpr (.inl p), fun v' z => ?_⟩
    rcases (hp _ _).mp z with z | ⟨z1, z2⟩
    · exact m v' z
    · obtain ⟨v1, e1, l⟩ := ge
      rw [← z1, e] at e1
      cases e1
      omega
  · refine .inr ⟨e, fun v z => ?_⟩
    rcases (hp _ _).mp z with z | ⟨z1, z2⟩
    · exact n v z
    · obtain ⟨v1, e1, l⟩ := ge
      rw [← z1, e] at e1
      cases e1
end
end GR

set_option maxHeartbeats 4000000
namespace TL
open PySem L2
def topS (i : Nat) : Stmt := PySem.Challenge.pw_grownfiles_k78_wishes.main.body.getD i (.Pass ⟨0, 0, 0, 0⟩)
abbrev s_is_integer : Stmt := topS 9
abbrev N_is_integer : List Str := ["thing", "least", "most"]
abbrev s_check_integer : Stmt := topS 10
abbrev N_check_integer : List Str := ["thing", "least", "most"]
abbrev s_is_share : Stmt := topS 13
abbrev N_is_share : List Str := ["thing"]
abbrev s_part_of : Stmt := topS 14
abbrev N_part_of : List Str := ["share", "hold", "top", "bottom"]
abbrev s_check_parts : Stmt := topS 16
abbrev N_check_parts : List Str := ["first", "roof", "share", "ahead"]
abbrev s_Book___init__ : Stmt := inClass (topS 17) 0
abbrev N_Book___init__ : List Str := ["self", "first", "roof", "share"]
abbrev s_Book_first : Stmt := inClass (topS 17) 4
abbrev N_Book_first : List Str := ["self"]
abbrev s_Book_roof : Stmt := inClass (topS 17) 6
abbrev N_Book_roof : List Str := ["self"]
abbrev s_Book_step : Stmt := inClass (topS 17) 10
abbrev N_Book_step : List Str := ["self", "hold"]
abbrev s_Book_given : Stmt := inClass (topS 17) 11
abbrev N_Book_given : List Str := ["self", "hold", "many"]
abbrev s_ramp : Stmt := topS 23
abbrev N_ramp : List Str := ["book", "found", "roof", "step"]
abbrev s_givings : Stmt := topS 24
abbrev N_givings : List Str := ["book", "size", "found", "end"]
abbrev s_most_pieces : Stmt := topS 25
abbrev N_most_pieces : List Str := ["book", "size", "back", "many"]
abbrev s_most_idle : Stmt := topS 26
abbrev N_most_idle : List Str := ["book", "size"]
abbrev s_check_blocks : Stmt := topS 30
abbrev N_check_blocks : List Str := ["blocks", "files", "least"]
abbrev s_whole_choices : Stmt := topS 31
abbrev N_whole_choices : List Str := ["book", "blocks", "found", "hold", "step", "total"]
abbrev s_layers : Stmt := topS 32
abbrev N_layers : List Str := ["choices", "blocks", "files", "found", "turn", "before", "layer", "best", "total", "idle", "growths", "held", "ahead", "here"]
abbrev s_growths_at : Stmt := topS 33
abbrev N_growths_at : List Str := ["found", "files", "held", "rows", "idle", "total", "growths"]
abbrev s_short_choices : Stmt := topS 34
abbrev N_short_choices : List Str := ["book", "blocks", "found", "hold", "most", "many"]
abbrev s_fullest : Stmt := topS 35
abbrev N_fullest : List Str := ["book", "blocks", "files", "found", "best", "held", "here", "total", "idle", "growths", "ahead"]
abbrev s_least_refused : Stmt := topS 36
abbrev N_least_refused : List Str := ["book", "blocks", "files"]
abbrev s_never_refused : Stmt := topS 37
abbrev N_never_refused : List Str := ["book", "blocks", "files"]
abbrev s_Wish___and__ : Stmt := inClass (topS 39) 0
abbrev N_Wish___and__ : List Str := ["self", "other"]
abbrev s_Wish___or__ : Stmt := inClass (topS 39) 1
abbrev N_Wish___or__ : List Str := ["self", "other"]
abbrev s_Wish___eq__ : Stmt := inClass (topS 39) 2
abbrev N_Wish___eq__ : List Str := ["self", "other"]
abbrev s_FewPieces___init__ : Stmt := inClass (topS 40) 0
abbrev N_FewPieces___init__ : List Str := ["self", "size", "most"]
abbrev s_FewPieces___call__ : Stmt := inClass (topS 40) 1
abbrev N_FewPieces___call__ : List Str := ["self", "book"]
abbrev s_FewPieces_shown : Stmt := inClass (topS 40) 2
abbrev N_FewPieces_shown : List Str := ["self"]
abbrev s_LittleIdle___init__ : Stmt := inClass (topS 41) 0
abbrev N_LittleIdle___init__ : List Str := ["self", "size", "most"]
abbrev s_LittleIdle___call__ : Stmt := inClass (topS 41) 1
abbrev N_LittleIdle___call__ : List Str := ["self", "book"]
abbrev s_LittleIdle_shown : Stmt := inClass (topS 41) 2
abbrev N_LittleIdle_shown : List Str := ["self"]
abbrev s_NoRefusal___init__ : Stmt := inClass (topS 42) 0
abbrev N_NoRefusal___init__ : List Str := ["self", "blocks", "files", "least"]
abbrev s_NoRefusal___call__ : Stmt := inClass (topS 42) 1
abbrev N_NoRefusal___call__ : List Str := ["self", "book"]
abbrev s_NoRefusal_shown : Stmt := inClass (topS 42) 2
abbrev N_NoRefusal_shown : List Str := ["self"]
abbrev s_BothWishes___init__ : Stmt := inClass (topS 43) 0
abbrev N_BothWishes___init__ : List Str := ["self", "one", "other"]
abbrev s_BothWishes___call__ : Stmt := inClass (topS 43) 1
abbrev N_BothWishes___call__ : List Str := ["self", "book"]
abbrev s_BothWishes_shown : Stmt := inClass (topS 43) 2
abbrev N_BothWishes_shown : List Str := ["self"]
abbrev s_EitherWish___init__ : Stmt := inClass (topS 44) 0
abbrev N_EitherWish___init__ : List Str := ["self", "one", "other"]
abbrev s_EitherWish___call__ : Stmt := inClass (topS 44) 1
abbrev N_EitherWish___call__ : List Str := ["self", "book"]
abbrev s_EitherWish_shown : Stmt := inClass (topS 44) 2
abbrev N_EitherWish_shown : List Str := ["self"]
abbrev s_law_hand : Stmt := topS 46
abbrev N_law_hand : List Str := ["_law_script", "_law_k", "_law_cell", "_law_seed"]
abbrev s_law_draw : Stmt := topS 47
abbrev N_law_draw : List Str := ["_law_pool", "_law_many", "_law_found"]
abbrev s_law_parts : Stmt := topS 48
abbrev N_law_parts : List Str := ["_law_pool", "_law_first", "_law_roof", "_law_any_pair", "_law_pair"]
abbrev s_law_book : Stmt := topS 49
abbrev N_law_book : List Str := ["_law_parts_here"]
abbrev s_law_wish : Stmt := topS 51
abbrev N_law_wish : List Str := ["_law_pool", "_law_deep", "_law_way"]
abbrev s_law_wished : Stmt := topS 52
abbrev N_law_wished : List Str := ["_law_tree", "_law_one", "_law_other"]
abbrev s_law_met : Stmt := topS 53
abbrev N_law_met : List Str := ["_law_tree", "_law_book_here", "_law_one", "_law_other"]
abbrev s_law_text : Stmt := topS 54
abbrev N_law_text : List Str := ["_law_tree", "_law_part"]
abbrev s_law_refused : Stmt := topS 55
abbrev N_law_refused : List Str := ["_law_door", "_law_numbers", "e"]
abbrev s_law_odd : Stmt := topS 56
abbrev N_law_odd : List Str := ["_law_odd_here", "_law_door", "_law_numbers", "_law_at"]
abbrev s_law : Stmt := topS 57
abbrev N_law : List Str := ["_law_script", "_law_k", "_law_pool", "_law_book_here", "_law_trees", "_law_wishes", "_law_tree", "_law_at", "_law_found", "_law_rest", "_law_is_due", "_law_either"]
abbrev si_InvalidNumber : Stmt := inClass (topS 4) 0
abbrev si_InvalidBook : Stmt := inClass (topS 3) 0
structure Ad where
  f_is_integer : Addr
  d_is_integer : FuncData
  f_check_integer : Addr
  d_check_integer : FuncData
  f_is_share : Addr
  d_is_share : FuncData
  f_part_of : Addr
  d_part_of : FuncData
  f_check_parts : Addr
  d_check_parts : FuncData
  f_Book___init__ : Addr
  d_Book___init__ : FuncData
  f_Book_first : Addr
  d_Book_first : FuncData
  p_Book_first : Addr
  f_Book_roof : Addr
  d_Book_roof : FuncData
  p_Book_roof : Addr
  f_Book_step : Addr
  d_Book_step : FuncData
  f_Book_given : Addr
  d_Book_given : FuncData
  f_ramp : Addr
  d_ramp : FuncData
  f_givings : Addr
  d_givings : FuncData
  f_most_pieces : Addr
  d_most_pieces : FuncData
  f_most_idle : Addr
  d_most_idle : FuncData
  f_check_blocks : Addr
  d_check_blocks : FuncData
  f_whole_choices : Addr
  d_whole_choices : FuncData
  f_layers : Addr
  d_layers : FuncData
  f_growths_at : Addr
  d_growths_at : FuncData
  f_short_choices : Addr
  d_short_choices : FuncData
  f_fullest : Addr
  d_fullest : FuncData
  f_least_refused : Addr
  d_least_refused : FuncData
  f_never_refused : Addr
  d_never_refused : FuncData
  f_Wish___and__ : Addr
  d_Wish___and__ : FuncData
  f_Wish___or__ : Addr
  d_Wish___or__ : FuncData
  f_Wish___eq__ : Addr
  d_Wish___eq__ : FuncData
  f_FewPieces___init__ : Addr
  d_FewPieces___init__ : FuncData
  f_FewPieces___call__ : Addr
  d_FewPieces___call__ : FuncData
  f_FewPieces_shown : Addr
  d_FewPieces_shown : FuncData
  f_LittleIdle___init__ : Addr
  d_LittleIdle___init__ : FuncData
  f_LittleIdle___call__ : Addr
  d_LittleIdle___call__ : FuncData
  f_LittleIdle_shown : Addr
  d_LittleIdle_shown : FuncData
  f_NoRefusal___init__ : Addr
  d_NoRefusal___init__ : FuncData
  f_NoRefusal___call__ : Addr
  d_NoRefusal___call__ : FuncData
  f_NoRefusal_shown : Addr
  d_NoRefusal_shown : FuncData
  f_BothWishes___init__ : Addr
  d_BothWishes___init__ : FuncData
  f_BothWishes___call__ : Addr
  d_BothWishes___call__ : FuncData
  f_BothWishes_shown : Addr
  d_BothWishes_shown : FuncData
  f_EitherWish___init__ : Addr
  d_EitherWish___init__ : FuncData
  f_EitherWish___call__ : Addr
  d_EitherWish___call__ : FuncData
  f_EitherWish_shown : Addr
  d_EitherWish_shown : FuncData
  f_law_hand : Addr
  d_law_hand : FuncData
  f_law_draw : Addr
  d_law_draw : FuncData
  f_law_parts : Addr
  d_law_parts : FuncData
  f_law_book : Addr
  d_law_book : FuncData
  f_law_wish : Addr
  d_law_wish : FuncData
  f_law_wished : Addr
  d_law_wished : FuncData
  f_law_met : Addr
  d_law_met : FuncData
  f_law_text : Addr
  d_law_text : FuncData
  f_law_refused : Addr
  d_law_refused : FuncData
  f_law_odd : Addr
  d_law_odd : FuncData
  f_law : Addr
  d_law : FuncData
  c_InvalidNumber : Addr
  c_GrowError : Addr
  c_InvalidBook : Addr
  c_Book : Addr
  c_BothWishes : Addr
  c_Wish : Addr
  c_EitherWish : Addr
  c_FewPieces : Addr
  c_LittleIdle : Addr
  c_NoRefusal : Addr
  c_InvalidChoice : Addr
  i_InvalidNumber : Addr
  e_InvalidNumber : FuncData
  i_InvalidBook : Addr
  e_InvalidBook : FuncData
def fam_cs (a : Ad) : List Addr := [a.c_FewPieces, a.c_LittleIdle, a.c_NoRefusal, a.c_BothWishes, a.c_EitherWish]
structure Tx (K : PySem.W.Frag) (mg : Str → Option Value) (a : Ad) : Prop where
  F_is_integer : Fun K "is_integer" "is_integer" s_is_integer a.f_is_integer a.d_is_integer
  b_is_integer : Binds K a.d_is_integer ["thing", "least", "most"] []
  g_is_integer : mg "is_integer" = some (.ref a.f_is_integer)
  F_check_integer : Fun K "check_integer" "check_integer" s_check_integer a.f_check_integer a.d_check_integer
  b_check_integer : Binds K a.d_check_integer ["thing", "least", "most"] []
  g_check_integer : mg "check_integer" = some (.ref a.f_check_integer)
  F_is_share : Fun K "is_share" "is_share" s_is_share a.f_is_share a.d_is_share
  b_is_share : Binds K a.d_is_share ["thing"] []
  g_is_share : mg "is_share" = some (.ref a.f_is_share)
  F_part_of : Fun K "part_of" "part_of" s_part_of a.f_part_of a.d_part_of
  b_part_of : Binds K a.d_part_of ["share", "hold"] []
  g_part_of : mg "part_of" = some (.ref a.f_part_of)
  F_check_parts : Fun K "check_parts" "check_parts" s_check_parts a.f_check_parts a.d_check_parts
  b_check_parts : Binds K a.d_check_parts ["first", "roof", "share", "ahead"] []
  g_check_parts : mg "check_parts" = some (.ref a.f_check_parts)
  F_Book___init__ : Fun K "__init__" "Book.__init__" s_Book___init__ a.f_Book___init__ a.d_Book___init__
  kb1_Book___init__ : KBt K a.d_Book___init__ ["self", "first", "roof", "share"] 3 ["share"] (fun ts zs => match ts, zs with | [x0, x1, x2], [k0] => [x0, x1, x2, k0] | _, _ => [])
  me_Book___init__ : Meth K a.c_Book "__init__" a.f_Book___init__
  F_Book_first : Fun K "first" "Book.first" s_Book_first a.f_Book_first a.d_Book_first
  b_Book_first : Binds K a.d_Book_first ["self"] []
  pr_Book_first : PropOf K a.c_Book "first" a.p_Book_first a.f_Book_first
  F_Book_roof : Fun K "roof" "Book.roof" s_Book_roof a.f_Book_roof a.d_Book_roof
  b_Book_roof : Binds K a.d_Book_roof ["self"] []
  pr_Book_roof : PropOf K a.c_Book "roof" a.p_Book_roof a.f_Book_roof
  F_Book_step : Fun K "step" "Book.step" s_Book_step a.f_Book_step a.d_Book_step
  b_Book_step : Binds K a.d_Book_step ["self", "hold"] []
  me_Book_step : Meth K a.c_Book "step" a.f_Book_step
  F_Book_given : Fun K "given" "Book.given" s_Book_given a.f_Book_given a.d_Book_given
  b_Book_given : Binds K a.d_Book_given ["self", "hold"] []
  me_Book_given : Meth K a.c_Book "given" a.f_Book_given
  F_ramp : Fun K "ramp" "ramp" s_ramp a.f_ramp a.d_ramp
  b_ramp : Binds K a.d_ramp ["book"] []
  g_ramp : mg "ramp" = some (.ref a.f_ramp)
  F_givings : Fun K "givings" "givings" s_givings a.f_givings a.d_givings
  b_givings : Binds K a.d_givings ["book", "size"] []
  g_givings : mg "givings" = some (.ref a.f_givings)
  F_most_pieces : Fun K "most_pieces" "most_pieces" s_most_pieces a.f_most_pieces a.d_most_pieces
  kb0_most_pieces : KBt K a.d_most_pieces ["book", "size", "back"] 2 [] (fun ts zs => match ts, zs with | [x0, x1], [] => [x0, x1, (.bl false)] | _, _ => [])
  g_most_pieces : mg "most_pieces" = some (.ref a.f_most_pieces)
  F_most_idle : Fun K "most_idle" "most_idle" s_most_idle a.f_most_idle a.d_most_idle
  b_most_idle : Binds K a.d_most_idle ["book", "size"] []
  g_most_idle : mg "most_idle" = some (.ref a.f_most_idle)
  F_check_blocks : Fun K "check_blocks" "check_blocks" s_check_blocks a.f_check_blocks a.d_check_blocks
  b_check_blocks : Binds K a.d_check_blocks ["blocks", "files", "least"] []
  g_check_blocks : mg "check_blocks" = some (.ref a.f_check_blocks)
  F_whole_choices : Fun K "whole_choices" "whole_choices" s_whole_choices a.f_whole_choices a.d_whole_choices
  b_whole_choices : Binds K a.d_whole_choices ["book", "blocks"] []
  g_whole_choices : mg "whole_choices" = some (.ref a.f_whole_choices)
  F_layers : Fun K "layers" "layers" s_layers a.f_layers a.d_layers
  b_layers : Binds K a.d_layers ["choices", "blocks", "files"] []
  g_layers : mg "layers" = some (.ref a.f_layers)
  F_growths_at : Fun K "growths_at" "growths_at" s_growths_at a.f_growths_at a.d_growths_at
  b_growths_at : Binds K a.d_growths_at ["found", "files", "held"] []
  g_growths_at : mg "growths_at" = some (.ref a.f_growths_at)
  F_short_choices : Fun K "short_choices" "short_choices" s_short_choices a.f_short_choices a.d_short_choices
  b_short_choices : Binds K a.d_short_choices ["book", "blocks"] []
  g_short_choices : mg "short_choices" = some (.ref a.f_short_choices)
  F_fullest : Fun K "fullest" "fullest" s_fullest a.f_fullest a.d_fullest
  b_fullest : Binds K a.d_fullest ["book", "blocks", "files"] []
  g_fullest : mg "fullest" = some (.ref a.f_fullest)
  F_least_refused : Fun K "least_refused" "least_refused" s_least_refused a.f_least_refused a.d_least_refused
  b_least_refused : Binds K a.d_least_refused ["book", "blocks", "files"] []
  g_least_refused : mg "least_refused" = some (.ref a.f_least_refused)
  F_never_refused : Fun K "never_refused" "never_refused" s_never_refused a.f_never_refused a.d_never_refused
  b_never_refused : Binds K a.d_never_refused ["book", "blocks", "files"] []
  g_never_refused : mg "never_refused" = some (.ref a.f_never_refused)
  F_Wish___and__ : Fun K "__and__" "Wish.__and__" s_Wish___and__ a.f_Wish___and__ a.d_Wish___and__
  b_Wish___and__ : Binds K a.d_Wish___and__ ["self", "other"] []
  me_Wish___and__ : Meth K a.c_Wish "__and__" a.f_Wish___and__
  F_Wish___or__ : Fun K "__or__" "Wish.__or__" s_Wish___or__ a.f_Wish___or__ a.d_Wish___or__
  b_Wish___or__ : Binds K a.d_Wish___or__ ["self", "other"] []
  me_Wish___or__ : Meth K a.c_Wish "__or__" a.f_Wish___or__
  F_Wish___eq__ : Fun K "__eq__" "Wish.__eq__" s_Wish___eq__ a.f_Wish___eq__ a.d_Wish___eq__
  b_Wish___eq__ : Binds K a.d_Wish___eq__ ["self", "other"] []
  me_Wish___eq__ : Meth K a.c_Wish "__eq__" a.f_Wish___eq__
  F_FewPieces___init__ : Fun K "__init__" "FewPieces.__init__" s_FewPieces___init__ a.f_FewPieces___init__ a.d_FewPieces___init__
  b_FewPieces___init__ : Binds K a.d_FewPieces___init__ ["self", "size", "most"] []
  KB_FewPieces___init__ : KBw K a.d_FewPieces___init__ ["self", "size", "most"] 3 []
  me_FewPieces___init__ : Meth K a.c_FewPieces "__init__" a.f_FewPieces___init__
  F_FewPieces___call__ : Fun K "__call__" "FewPieces.__call__" s_FewPieces___call__ a.f_FewPieces___call__ a.d_FewPieces___call__
  b_FewPieces___call__ : Binds K a.d_FewPieces___call__ ["self", "book"] []
  me_FewPieces___call__ : Meth K a.c_FewPieces "__call__" a.f_FewPieces___call__
  fc_FewPieces___call__ : PySem.W.fnIn K a.f_FewPieces___call__ = true
  F_FewPieces_shown : Fun K "shown" "FewPieces.shown" s_FewPieces_shown a.f_FewPieces_shown a.d_FewPieces_shown
  b_FewPieces_shown : Binds K a.d_FewPieces_shown ["self"] []
  me_FewPieces_shown : Meth K a.c_FewPieces "shown" a.f_FewPieces_shown
  fc_FewPieces_shown : PySem.W.fnIn K a.f_FewPieces_shown = true
  F_LittleIdle___init__ : Fun K "__init__" "LittleIdle.__init__" s_LittleIdle___init__ a.f_LittleIdle___init__ a.d_LittleIdle___init__
  b_LittleIdle___init__ : Binds K a.d_LittleIdle___init__ ["self", "size", "most"] []
  KB_LittleIdle___init__ : KBw K a.d_LittleIdle___init__ ["self", "size", "most"] 3 []
  me_LittleIdle___init__ : Meth K a.c_LittleIdle "__init__" a.f_LittleIdle___init__
  F_LittleIdle___call__ : Fun K "__call__" "LittleIdle.__call__" s_LittleIdle___call__ a.f_LittleIdle___call__ a.d_LittleIdle___call__
  b_LittleIdle___call__ : Binds K a.d_LittleIdle___call__ ["self", "book"] []
  me_LittleIdle___call__ : Meth K a.c_LittleIdle "__call__" a.f_LittleIdle___call__
  fc_LittleIdle___call__ : PySem.W.fnIn K a.f_LittleIdle___call__ = true
  F_LittleIdle_shown : Fun K "shown" "LittleIdle.shown" s_LittleIdle_shown a.f_LittleIdle_shown a.d_LittleIdle_shown
  b_LittleIdle_shown : Binds K a.d_LittleIdle_shown ["self"] []
  me_LittleIdle_shown : Meth K a.c_LittleIdle "shown" a.f_LittleIdle_shown
  fc_LittleIdle_shown : PySem.W.fnIn K a.f_LittleIdle_shown = true
  F_NoRefusal___init__ : Fun K "__init__" "NoRefusal.__init__" s_NoRefusal___init__ a.f_NoRefusal___init__ a.d_NoRefusal___init__
  b_NoRefusal___init__ : Binds K a.d_NoRefusal___init__ ["self", "blocks", "files", "least"] []
  KB_NoRefusal___init__ : KBw K a.d_NoRefusal___init__ ["self", "blocks", "files", "least"] 4 []
  me_NoRefusal___init__ : Meth K a.c_NoRefusal "__init__" a.f_NoRefusal___init__
  F_NoRefusal___call__ : Fun K "__call__" "NoRefusal.__call__" s_NoRefusal___call__ a.f_NoRefusal___call__ a.d_NoRefusal___call__
  b_NoRefusal___call__ : Binds K a.d_NoRefusal___call__ ["self", "book"] []
  me_NoRefusal___call__ : Meth K a.c_NoRefusal "__call__" a.f_NoRefusal___call__
  fc_NoRefusal___call__ : PySem.W.fnIn K a.f_NoRefusal___call__ = true
  F_NoRefusal_shown : Fun K "shown" "NoRefusal.shown" s_NoRefusal_shown a.f_NoRefusal_shown a.d_NoRefusal_shown
  b_NoRefusal_shown : Binds K a.d_NoRefusal_shown ["self"] []
  me_NoRefusal_shown : Meth K a.c_NoRefusal "shown" a.f_NoRefusal_shown
  fc_NoRefusal_shown : PySem.W.fnIn K a.f_NoRefusal_shown = true
  F_BothWishes___init__ : Fun K "__init__" "BothWishes.__init__" s_BothWishes___init__ a.f_BothWishes___init__ a.d_BothWishes___init__
  b_BothWishes___init__ : Binds K a.d_BothWishes___init__ ["self", "one", "other"] []
  KB_BothWishes___init__ : KBw K a.d_BothWishes___init__ ["self", "one", "other"] 3 []
  me_BothWishes___init__ : Meth K a.c_BothWishes "__init__" a.f_BothWishes___init__
  F_BothWishes___call__ : Fun K "__call__" "BothWishes.__call__" s_BothWishes___call__ a.f_BothWishes___call__ a.d_BothWishes___call__
  b_BothWishes___call__ : Binds K a.d_BothWishes___call__ ["self", "book"] []
  me_BothWishes___call__ : Meth K a.c_BothWishes "__call__" a.f_BothWishes___call__
  fc_BothWishes___call__ : PySem.W.fnIn K a.f_BothWishes___call__ = true
  F_BothWishes_shown : Fun K "shown" "BothWishes.shown" s_BothWishes_shown a.f_BothWishes_shown a.d_BothWishes_shown
  b_BothWishes_shown : Binds K a.d_BothWishes_shown ["self"] []
  me_BothWishes_shown : Meth K a.c_BothWishes "shown" a.f_BothWishes_shown
  fc_BothWishes_shown : PySem.W.fnIn K a.f_BothWishes_shown = true
  F_EitherWish___init__ : Fun K "__init__" "EitherWish.__init__" s_EitherWish___init__ a.f_EitherWish___init__ a.d_EitherWish___init__
  b_EitherWish___init__ : Binds K a.d_EitherWish___init__ ["self", "one", "other"] []
  KB_EitherWish___init__ : KBw K a.d_EitherWish___init__ ["self", "one", "other"] 3 []
  me_EitherWish___init__ : Meth K a.c_EitherWish "__init__" a.f_EitherWish___init__
  F_EitherWish___call__ : Fun K "__call__" "EitherWish.__call__" s_EitherWish___call__ a.f_EitherWish___call__ a.d_EitherWish___call__
  b_EitherWish___call__ : Binds K a.d_EitherWish___call__ ["self", "book"] []
  me_EitherWish___call__ : Meth K a.c_EitherWish "__call__" a.f_EitherWish___call__
  fc_EitherWish___call__ : PySem.W.fnIn K a.f_EitherWish___call__ = true
  F_EitherWish_shown : Fun K "shown" "EitherWish.shown" s_EitherWish_shown a.f_EitherWish_shown a.d_EitherWish_shown
  b_EitherWish_shown : Binds K a.d_EitherWish_shown ["self"] []
  me_EitherWish_shown : Meth K a.c_EitherWish "shown" a.f_EitherWish_shown
  fc_EitherWish_shown : PySem.W.fnIn K a.f_EitherWish_shown = true
  F_law_hand : Fun K "_law_hand" "_law_hand" s_law_hand a.f_law_hand a.d_law_hand
  b_law_hand : Binds K a.d_law_hand ["_law_script", "_law_k"] []
  g_law_hand : mg "_law_hand" = some (.ref a.f_law_hand)
  F_law_draw : Fun K "_law_draw" "_law_draw" s_law_draw a.f_law_draw a.d_law_draw
  b_law_draw : Binds K a.d_law_draw ["_law_pool", "_law_many"] []
  g_law_draw : mg "_law_draw" = some (.ref a.f_law_draw)
  F_law_parts : Fun K "_law_parts" "_law_parts" s_law_parts a.f_law_parts a.d_law_parts
  b_law_parts : Binds K a.d_law_parts ["_law_pool"] []
  g_law_parts : mg "_law_parts" = some (.ref a.f_law_parts)
  F_law_book : Fun K "_law_book" "_law_book" s_law_book a.f_law_book a.d_law_book
  b_law_book : Binds K a.d_law_book ["_law_parts_here"] []
  g_law_book : mg "_law_book" = some (.ref a.f_law_book)
  F_law_wish : Fun K "_law_wish" "_law_wish" s_law_wish a.f_law_wish a.d_law_wish
  b_law_wish : Binds K a.d_law_wish ["_law_pool", "_law_deep"] []
  g_law_wish : mg "_law_wish" = some (.ref a.f_law_wish)
  F_law_wished : Fun K "_law_wished" "_law_wished" s_law_wished a.f_law_wished a.d_law_wished
  b_law_wished : Binds K a.d_law_wished ["_law_tree"] []
  g_law_wished : mg "_law_wished" = some (.ref a.f_law_wished)
  F_law_met : Fun K "_law_met" "_law_met" s_law_met a.f_law_met a.d_law_met
  b_law_met : Binds K a.d_law_met ["_law_tree", "_law_book_here"] []
  g_law_met : mg "_law_met" = some (.ref a.f_law_met)
  F_law_text : Fun K "_law_text" "_law_text" s_law_text a.f_law_text a.d_law_text
  b_law_text : Binds K a.d_law_text ["_law_tree"] []
  g_law_text : mg "_law_text" = some (.ref a.f_law_text)
  F_law_refused : Fun K "_law_refused" "_law_refused" s_law_refused a.f_law_refused a.d_law_refused
  b_law_refused : Binds K a.d_law_refused ["_law_door", "_law_numbers"] []
  g_law_refused : mg "_law_refused" = some (.ref a.f_law_refused)
  F_law_odd : Fun K "_law_odd" "_law_odd" s_law_odd a.f_law_odd a.d_law_odd
  b_law_odd : Binds K a.d_law_odd [] []
  g_law_odd : mg "_law_odd" = some (.ref a.f_law_odd)
  F_law : Fun K "law" "law" s_law a.f_law a.d_law
  b_law : Binds K a.d_law ["_law_script"] []
  g_law : mg "law" = some (.ref a.f_law)
  cl_Book : Cls K a.c_Book
  mk_Book : Mk K a.c_Book a.f_Book___init__
  cl_BothWishes : Cls K a.c_BothWishes
  mk_BothWishes : Mk K a.c_BothWishes a.f_BothWishes___init__
  cl_Wish : Cls K a.c_Wish
  cl_EitherWish : Cls K a.c_EitherWish
  mk_EitherWish : Mk K a.c_EitherWish a.f_EitherWish___init__
  cl_FewPieces : Cls K a.c_FewPieces
  mk_FewPieces : Mk K a.c_FewPieces a.f_FewPieces___init__
  cl_LittleIdle : Cls K a.c_LittleIdle
  mk_LittleIdle : Mk K a.c_LittleIdle a.f_LittleIdle___init__
  cl_NoRefusal : Cls K a.c_NoRefusal
  mk_NoRefusal : Mk K a.c_NoRefusal a.f_NoRefusal___init__
  sf_BothWishes : PySem.W.selfFirst K a.c_BothWishes = true
  sf_Wish : PySem.W.selfFirst K a.c_Wish = true
  sf_EitherWish : PySem.W.selfFirst K a.c_EitherWish = true
  sf_FewPieces : PySem.W.selfFirst K a.c_FewPieces = true
  sf_LittleIdle : PySem.W.selfFirst K a.c_LittleIdle = true
  sf_NoRefusal : PySem.W.selfFirst K a.c_NoRefusal = true
  kn_Wish : ∀ k : Kd, PySem.W.kitOne K (.type k.nm) (.ref a.c_Wish) = some false
  ki_Book_Wish : PySem.W.kitOne K (.ref a.c_Book) (.ref a.c_Wish) = some false
  ki_BothWishes_Wish : PySem.W.kitOne K (.ref a.c_BothWishes) (.ref a.c_Wish) = some true
  ki_Wish_Wish : PySem.W.kitOne K (.ref a.c_Wish) (.ref a.c_Wish) = some true
  ki_EitherWish_Wish : PySem.W.kitOne K (.ref a.c_EitherWish) (.ref a.c_Wish) = some true
  ki_FewPieces_Wish : PySem.W.kitOne K (.ref a.c_FewPieces) (.ref a.c_Wish) = some true
  ki_LittleIdle_Wish : PySem.W.kitOne K (.ref a.c_LittleIdle) (.ref a.c_Wish) = some true
  ki_NoRefusal_Wish : PySem.W.kitOne K (.ref a.c_NoRefusal) (.ref a.c_Wish) = some true
  ty_Book : TyC K a.c_Book
  ty_BothWishes : TyC K a.c_BothWishes
  ty_Wish : TyC K a.c_Wish
  ty_EitherWish : TyC K a.c_EitherWish
  ty_FewPieces : TyC K a.c_FewPieces
  ty_LittleIdle : TyC K a.c_LittleIdle
  ty_NoRefusal : TyC K a.c_NoRefusal
  na_Book_own_share : NoAttr K a.c_Book "own_share"
  na_Book_own_roof : NoAttr K a.c_Book "own_roof"
  na_Book_own_first : NoAttr K a.c_Book "own_first"
  na_FewPieces_most : NoAttr K a.c_FewPieces "most"
  na_FewPieces_size : NoAttr K a.c_FewPieces "size"
  na_LittleIdle_most : NoAttr K a.c_LittleIdle "most"
  na_LittleIdle_size : NoAttr K a.c_LittleIdle "size"
  na_NoRefusal_at_least : NoAttr K a.c_NoRefusal "at_least"
  na_NoRefusal_files : NoAttr K a.c_NoRefusal "files"
  na_NoRefusal_blocks : NoAttr K a.c_NoRefusal "blocks"
  na_BothWishes_other : NoAttr K a.c_BothWishes "other"
  na_BothWishes_one : NoAttr K a.c_BothWishes "one"
  na_EitherWish_other : NoAttr K a.c_EitherWish "other"
  na_EitherWish_one : NoAttr K a.c_EitherWish "one"
  g_InvalidNumber : mg "InvalidNumber" = some (.ref a.c_InvalidNumber)
  g_GrowError : mg "GrowError" = some (.ref a.c_GrowError)
  g_InvalidBook : mg "InvalidBook" = some (.ref a.c_InvalidBook)
  g_Book : mg "Book" = some (.ref a.c_Book)
  g_BothWishes : mg "BothWishes" = some (.ref a.c_BothWishes)
  g_Wish : mg "Wish" = some (.ref a.c_Wish)
  g_EitherWish : mg "EitherWish" = some (.ref a.c_EitherWish)
  g_FewPieces : mg "FewPieces" = some (.ref a.c_FewPieces)
  g_LittleIdle : mg "LittleIdle" = some (.ref a.c_LittleIdle)
  g_NoRefusal : mg "NoRefusal" = some (.ref a.c_NoRefusal)
  g_InvalidChoice : mg "InvalidChoice" = some (.ref a.c_InvalidChoice)
  o_InvalidNumber : OexC K a.c_InvalidNumber
  i_InvalidNumber : PySem.W.findIn K (.ref a.c_InvalidNumber) "__init__" = some (some (.ref a.i_InvalidNumber))
  t_InvalidNumber : PySem.W.typeIn K (.ref a.i_InvalidNumber) = some (.type "function")
  n_InvalidNumber : PySem.W.findIn K (.ref a.c_InvalidNumber) "number" = some none
  FI_InvalidNumber : Fun K "__init__" "InvalidNumber.__init__" si_InvalidNumber a.i_InvalidNumber a.e_InvalidNumber
  BI_InvalidNumber : Binds K a.e_InvalidNumber ["self", "number"] []
  x_InvalidNumber : XfC K a.c_InvalidNumber
  q_InvalidNumber : ExcC K a.c_InvalidNumber
  m_InvalidNumber_GrowError : PySem.W.exmOne K (.ref a.c_InvalidNumber) (.ref a.c_GrowError) = some true
  k_InvalidNumber_InvalidNumber : PySem.W.kitOne K (.ref a.c_InvalidNumber) (.ref a.c_InvalidNumber) = some true
  k_InvalidNumber_InvalidChoice : PySem.W.kitOne K (.ref a.c_InvalidNumber) (.ref a.c_InvalidChoice) = some false
  o_InvalidBook : OexC K a.c_InvalidBook
  i_InvalidBook : PySem.W.findIn K (.ref a.c_InvalidBook) "__init__" = some (some (.ref a.i_InvalidBook))
  t_InvalidBook : PySem.W.typeIn K (.ref a.i_InvalidBook) = some (.type "function")
  n_InvalidBook : PySem.W.findIn K (.ref a.c_InvalidBook) "part" = some none
  FI_InvalidBook : Fun K "__init__" "InvalidBook.__init__" si_InvalidBook a.i_InvalidBook a.e_InvalidBook
  BI_InvalidBook : Binds K a.e_InvalidBook ["self", "part"] []
  x_InvalidBook : XfC K a.c_InvalidBook
  q_InvalidBook : ExcC K a.c_InvalidBook
  m_InvalidBook_GrowError : PySem.W.exmOne K (.ref a.c_InvalidBook) (.ref a.c_GrowError) = some true
  k_InvalidBook_InvalidNumber : PySem.W.kitOne K (.ref a.c_InvalidBook) (.ref a.c_InvalidNumber) = some false
  k_InvalidBook_InvalidChoice : PySem.W.kitOne K (.ref a.c_InvalidBook) (.ref a.c_InvalidChoice) = some false
  fm_Wish___and__ : FamB K "and" a.f_Wish___and__ (fam_cs a)
  fm_Wish___or__ : FamB K "or" a.f_Wish___or__ (fam_cs a)
  fm_Wish___eq__ : Fam K "__eq__" a.f_Wish___eq__ (fam_cs a)
  z_bool : mg "bool" = none
  z_enumerate : mg "enumerate" = none
  z_int : mg "int" = none
  z_isinstance : mg "isinstance" = none
  z_len : mg "len" = none
  z_max : mg "max" = none
  z_min : mg "min" = none
  z_range : mg "range" = none
  z_repr : mg "repr" = none
  z_str : mg "str" = none
  z_tuple : mg "tuple" = none
  c_MOST : ∃ t : Tok, mg "MOST" = some (.int 10000000000000000000000000000000000000000 t)
  c_MOST_BLOCKS : ∃ t : Tok, mg "MOST_BLOCKS" = some (.int 300 t)
  c_MOST_FILES : ∃ t : Tok, mg "MOST_FILES" = some (.int 8 t)
  c_MOST_GROWTH_checks : ∃ t : Tok, mg "MOST_GROWTH_checks" = some (.int 1000000000000000000000000000000 t)
  c_MOST_GROWTH_numbers : ∃ t : Tok, mg "MOST_GROWTH_numbers" = some (.int 1000000000000000000000000000000 t)
  c_MOST_NUMBER : ∃ t : Tok, mg "MOST_NUMBER" = some (.int 10000000000000000000000000000000000000000 t)
  c_MOST_SHARE : ∃ t : Tok, mg "MOST_SHARE" = some (.int 100 t)
def isInt (x : T) (a b : Int) : Bool := match x with
  | .int i => decide (a ≤ i) && decide (i ≤ b)
  | _ => false
def shT (t b : Int) : T := .tup [.int t, .int b]
def ptT (f r t b : Int) : T := .tup [.int f, .int r, shT t b]
def bkF (f r t b : Int) : List (Str × T) := [("own_first", .int f), ("own_roof", .int r), ("own_share", shT t b)]
def Bk (a : Ad) (h : Hq) (x : T) (f r t b : Int) : Prop := insOf h x = some (a.c_Book, bkF f r t b)
def bk (a : Ad) (f r t b : Int) : T := .ins a.c_Book (bkF f r t b)
def C_is_integer : Con := fun ts h Q _ => ∃ x a b k, ts = [x, .int a, .int b] ∧ kdOf h x = some k ∧ Q (.bl (isInt x a b)) h
def badN (a : Ad) (t : T) : Ex := ⟨.ref a.c_InvalidNumber, [("number", t)]⟩
def C_check_integer (a : Ad) : Con := fun ts h Q E => ∃ x l m, ts = [x, .int l, .int m] ∧ ((∃ i, x = .int i ∧ l ≤ i ∧ i ≤ m ∧ Q .non h) ∨ (∃ k, kdOf h x = some k ∧ isInt x l m = false ∧ E (badN a x) h))
def C_part_of : Con := fun ts h Q _ => ∃ t b k, ts = [shT t b, .int k] ∧ 1 ≤ t ∧ t ≤ 100 ∧ 1 ≤ b ∧ b ≤ 100 ∧ Q (.int (GB.part t b k)) h
def C_Book_given (a : Ad) : Con := fun ts h Q _ => ∃ x f r t b k, ts = [x, .int k] ∧ Bk a h x f r t b ∧ GB.Ok f r t b ∧ Q (.int (GB.step f r t b k)) h
def C_Book_step (a : Ad) : Con := fun ts h Q E => ∃ x f r t b y, ts = [x, y] ∧ Bk a h x f r t b ∧ GB.Ok f r t b ∧ ((∃ k, y = .int k ∧ 0 ≤ k ∧ k ≤ 10 ^ 40 ∧ Q (.int (GB.step f r t b k)) h) ∨ (∃ k, kdOf h y = some k ∧ isInt y 0 (10 ^ 40) = false ∧ E (badN a y) h))
def C_Book_first (a : Ad) : Con := fun ts h Q _ => ∃ x f r t b, ts = [x] ∧ Bk a h x f r t b ∧ Q (.int f) h
def C_Book_roof (a : Ad) : Con := fun ts h Q _ => ∃ x f r t b, ts = [x] ∧ Bk a h x f r t b ∧ Q (.int r) h
def C_is_share : Con := fun ts h Q _ => ∃ t b, ts = [shT t b] ∧ 1 ≤ t ∧ t ≤ 100 ∧ 1 ≤ b ∧ b ≤ 100 ∧ Q (.bl true) h
def C_check_parts : Con := fun ts h Q _ => ∃ f r t b x, ts = [.int f, .int r, shT t b, x] ∧ GB.Ok f r t b ∧ Q .non h
def C_Book___init__ (a : Ad) : Con := fun ts h Q _ => ∃ p f r t b, ts = [.ref p, .int f, .int r, shT t b] ∧ GB.Ok f r t b ∧ h p = some (.ins a.c_Book []) ∧ Q .non (put h p (.ins a.c_Book (bkF f r t b)))
def C_law_book (a : Ad) : Con := fun ts h Q _ => ∃ f r t b, ts = [ptT f r t b] ∧ GB.Ok f r t b ∧ ∀ p, h p = none → Q (.ref p) (put h p (.ins a.c_Book (bkF f r t b)))
def C_law_parts : Con := fun ts h Q _ => ∃ p, ts = [.ref p] ∧ h p = some .pool ∧ ∀ f r t b, GB.Ok f r t b → f ≤ 7 → r ≤ 107 → t ≤ 10 → b ≤ 10 → Q (ptT f r t b) h
def endsT (f r t b : Int) (n : Nat) : List T := (List.range (n + 1)).map fun i => T.int (GB.E f r t b i)
def C_ramp (a : Ad) : Con := fun ts h Q _ => ∃ x f r t b, ts = [x] ∧ Bk a h x f r t b ∧ GB.Ok f r t b ∧ ∀ n, GB.Ramp f r t b n → ∀ p, h p = none → Q (.ref p) (put h p (.lst (endsT f r t b n)))
def C_givings (a : Ad) : Con := fun ts h Q E => ∃ x f r t b y, ts = [x, y] ∧ Bk a h x f r t b ∧ GB.Ok f r t b ∧ ((∃ k, y = .int k ∧ 0 ≤ k ∧ k ≤ 10 ^ 40 ∧ ∀ g : Nat, (∀ i, GB.E f r t b i < k ↔ i < g) → Q (.int g) h) ∨ (∃ k, kdOf h y = some k ∧ isInt y 0 (10 ^ 40) = false ∧ E (badN a y) h))
def mostIdle (f r t b k : Int) : Int := if k = 0 then 0 else if f < k then GB.step f r t b (k - 1) - 1 else f - k
def C_most_idle (a : Ad) : Con := fun ts h Q E => ∃ x f r t b y, ts = [x, y] ∧ Bk a h x f r t b ∧ GB.Ok f r t b ∧ ((∃ k, y = .int k ∧ 0 ≤ k ∧ k ≤ 10 ^ 30 ∧ Q (.int (mostIdle f r t b k)) h) ∨ (∃ k, kdOf h y = some k ∧ isInt y 0 (10 ^ 30) = false ∧ E (badN a y) h))
def C_most_pieces (a : Ad) : Con := fun ts h Q E => ∃ x f r t b y z, ts = [x, y, z] ∧ Bk a h x f r t b ∧ GB.Ok f r t b ∧
  ((∃ k, y = .int k ∧ 0 ≤ k ∧ k ≤ 10 ^ 40 ∧ ((∃ v : Bool, z = .bl v ∧ ∀ g : Nat, (∀ i, GB.E f r t b i < k ↔ i < g) → Q (.int (if v = true then k else g)) h) ∨ (∃ kz, kdOf h z = some kz ∧ kz ≠ .bl ∧ E (badN a z) h))) ∨ (∃ k, kdOf h y = some k ∧ isInt y 0 (10 ^ 40) = false ∧ E (badN a y) h))
def BF (h : Hq) (y z : T) (l : Int) (good : Nat → Nat → Prop) (bad : T → Prop) : Prop :=
  (∃ B F : Nat, y = .int B ∧ 1 ≤ B ∧ B ≤ 300 ∧ z = .int F ∧ l ≤ F ∧ F ≤ 8 ∧ good B F) ∨
  (∃ B : Nat, y = .int B ∧ 1 ≤ B ∧ B ≤ 300 ∧ ∃ k, kdOf h z = some k ∧ isInt z l 8 = false ∧ bad z) ∨
  (∃ k, kdOf h y = some k ∧ isInt y 1 300 = false ∧ bad y)
def C_check_blocks (a : Ad) : Con := fun ts h Q E => ∃ y z l, ts = [y, z, .int l] ∧ BF h y z l (fun _ _ => Q .non h) (fun u => E (badN a u) h)
def chT (c : Int × Int × T) : Key × T := (.inl c.1, .tup [.int c.2.1, c.2.2])
def GrOk (f : Int) (st : Int → Int) (c : Int × Int × T) : Prop := (c.1 = f ∧ c.2.1 = f - 1 ∧ c.2.2 = .lst [.int 1]) ∨ ∃ h, f ≤ h ∧ c.1 = h + st h ∧ c.2.1 = st h - 1 ∧ c.2.2 = .lst [.int h, .int 1]
def C_whole_choices (a : Ad) : Con := fun ts h Q _ => ∃ x f r t b, ∃ B : Nat, ts = [x, .int B] ∧ Bk a h x f r t b ∧ GB.Ok f r t b ∧ B ≤ 300 ∧ ∀ cs : List (Int × Int × T), GR.CsOk f (GB.step f r t b) B cs → (∀ c ∈ cs, GrOk f (GB.step f r t b) c) → ∀ p, h p = none → Q (.ref p) (put h p (.dK (cs.map chT)))
def cellOk (P : Int → Prop) (R : Int → T → T → Prop) (c : T) : Prop := (c = .non ∧ ∀ v, ¬ P v) ∨ ∃ v tt g, c = .tup [.int v, tt, g] ∧ P v ∧ (∀ v', P v' → v' ≤ v) ∧ R v tt g
def backR (cs : List (Int × Int × T)) (n : Nat) (x v : Int) (tt g : T) : Prop := match n with
  | 0 => True
  | n + 1 => (tt = .int 0 ∧ g = .non ∧ GR.Best cs n x v) ∨ ∃ t i, tt = .int t ∧ (t, i, g) ∈ cs ∧ GR.Best cs n (x - t) (v - i)
def RowOk (cs : List (Int × Int × T)) (B n : Nat) (row : List T) : Prop := row.length = B + 1 ∧ ∀ x : Nat, x ≤ B → ∃ c, row[x]? = some c ∧ cellOk (fun v => ∃ rs, GR.Pth cs n x v rs) (backR cs n x) c
def Lay (cs : List (Int × Int × T)) (B F : Nat) (h : Hq) (qs : List Addr) : Prop := qs.length = F + 1 ∧ ∀ i q, qs[i]? = some q → ∃ row, h q = some (.lst row) ∧ RowOk cs B i row
def C_layers : Con := fun ts h Q _ => ∃ d, ∃ (B F : Nat) (cs : List (Int × Int × T)), ts = [.ref d, .int B, .int F] ∧ h d = some (.dK (cs.map chT)) ∧ (∀ c ∈ cs, 1 ≤ c.1 ∧ c.1 ≤ B ∧ 0 ≤ c.2.1 ∧ c.2.1 ≤ c.1) ∧ B ≤ 300 ∧ F ≤ 8 ∧ ∀ h' p qs, Sub h h' → h p = none → h' p = some (.lst (qs.map .ref)) → p ∉ qs → Lay cs B F h' qs → Q (.ref p) h'
def C_growths_at : Con := fun ts h Q _ => ∃ (qs : List Addr) (cs : List (Int × Int × T)) (B F n x : Nat) (v : Int), ts = [.lst (qs.map .ref), .int n, .int x] ∧ Lay cs B F h qs ∧ n ≤ F ∧ F ≤ 8 ∧ x ≤ B ∧ B ≤ 300 ∧ (∀ c ∈ cs, 1 ≤ c.1 ∧ c.2.2 ≠ .non) ∧ GR.Best cs n x v ∧ ∀ p rs, h p = none → GR.Pth cs n x v rs → Q (.ref p) (put h p (.lst rs))
def shrT (c : Int × Int × T) : T := .tup [.int c.1, .int c.2.1, c.2.2]
def ShOk (f : Int) (st : Int → Int) (B : Int) (c : Int × Int × T) : Prop := ∃ hold many, (hold = 0 ∨ f ≤ hold) ∧ 1 ≤ many ∧ many ≤ st hold - 1 ∧ hold + many ≤ B ∧ c = (hold + many, many - 1, if hold = 0 then .lst [.int 1] else .lst [.int hold, .int 1])
def C_short_choices (a : Ad) : Con := fun ts h Q _ => ∃ x f r t b, ∃ B : Nat, ts = [x, .int B] ∧ Bk a h x f r t b ∧ GB.Ok f r t b ∧ B ≤ 300 ∧ ∀ ss : List (Int × Int × T), (∀ c, c ∈ ss ↔ ShOk f (GB.step f r t b) B c) → ∀ p, h p = none → Q (.ref p) (put h p (.lst (ss.map shrT)))
def FullRows (f : Int) (st : Int → Int) (B F : Nat) (v held : Int) (rs : List T) : Prop := ∃ cs : List (Int × Int × T), (∀ c ∈ cs, GrOk f st c ∧ c.1 ≤ B) ∧ ((0 ≤ held ∧ held ≤ B ∧ GR.Pth cs F held v rs) ∨ ∃ F' rs' s w, F = F' + 1 ∧ ShOk f st B s ∧ GR.Pth cs F' (B - s.1) w rs' ∧ v = w + s.2.1 ∧ held = B ∧ rs = rs' ++ [s.2.2])
def C_fullest (a : Ad) : Con := fun ts h Q _ => ∃ x f r t b, ∃ B F : Nat, ts = [x, .int B, .int F] ∧ Bk a h x f r t b ∧ GB.Ok f r t b ∧ B ≤ 300 ∧ F ≤ 8 ∧ ∀ v held rs, GR.IsMax (GR.Full f (GB.step f r t b) B F) v → FullRows f (GB.step f r t b) B F v held rs → Q (.tup [.int v, .int held, .lst rs]) h
def C_least_refused (a : Ad) : Con := fun ts h Q E => ∃ x f r t b y z, ts = [x, y, z] ∧ Bk a h x f r t b ∧ GB.Ok f r t b ∧ BF h y z 1 (fun B F => ∀ v, GR.IsMax (GR.Full f (GB.step f r t b) B (F - 1)) v → Q (.int (B + 1 - v)) h) (fun u => E (badN a u) h)
def C_never_refused (a : Ad) : Con := fun ts h Q E => ∃ x f r t b y z, ts = [x, y, z] ∧ Bk a h x f r t b ∧ GB.Ok f r t b ∧ BF h y z 1 (fun B F => ∀ v, GR.IsMax (GR.Full f (GB.step f r t b) B (F - 1)) v → Q (.int (B - v)) h) (fun u => E (badN a u) h)
def C_law : Con := fun ts h Q _ => ∃ ns : List Int, ts = [.scr ns] ∧ ns.length ≤ 63 ∧ ∀ h', Q (.bl true) h'
inductive Wi where
  | p (s m : Int)
  | i (s m : Int)
  | k (b f l : Int)
  | both (x y : Wi)
  | either (x y : Wi)
def Wi.dep : Wi → Nat
  | .both x y => max x.dep y.dep + 1
  | .either x y => max x.dep y.dep + 1
  | _ => 0
def Wi.Ok : Wi → Prop
  | .p s m => 0 ≤ s ∧ s ≤ 100 ∧ 0 ≤ m ∧ m ≤ 100
  | .i s m => 0 ≤ s ∧ s ≤ 100 ∧ 0 ≤ m ∧ m ≤ 100
  | .k b f l => 1 ≤ b ∧ b ≤ 100 ∧ 1 ≤ f ∧ f ≤ 8 ∧ 0 ≤ l ∧ l ≤ 100
  | .both x y => x.Ok ∧ y.Ok
  | .either x y => x.Ok ∧ y.Ok
def wiC (a : Ad) : Wi → Addr
  | .p _ _ => a.c_FewPieces
  | .i _ _ => a.c_LittleIdle
  | .k _ _ _ => a.c_NoRefusal
  | .both _ _ => a.c_BothWishes
  | .either _ _ => a.c_EitherWish
def wiT (a : Ad) : Wi → T
  | .p s m => .ins a.c_FewPieces [("size", .int s), ("most", .int m)]
  | .i s m => .ins a.c_LittleIdle [("size", .int s), ("most", .int m)]
  | .k b f l => .ins a.c_NoRefusal [("blocks", .int b), ("files", .int f), ("at_least", .int l)]
  | .both x y => .ins a.c_BothWishes [("one", wiT a x), ("other", wiT a y)]
  | .either x y => .ins a.c_EitherWish [("one", wiT a x), ("other", wiT a y)]
def wiF (a : Ad) : Wi → List (Str × T)
  | .p s m => [("size", .int s), ("most", .int m)]
  | .i s m => [("size", .int s), ("most", .int m)]
  | .k b f l => [("blocks", .int b), ("files", .int f), ("at_least", .int l)]
  | .both x y => [("one", wiT a x), ("other", wiT a y)]
  | .either x y => [("one", wiT a x), ("other", wiT a y)]
theorem wiT_eq (a : Ad) (w : Wi) : wiT a w = .ins (wiC a w) (wiF a w) := by cases w <;> rfl
def trL : Wi → List T
  | .p s m => [.str "pieces", .int s, .int m]
  | .i s m => [.str "idle", .int s, .int m]
  | .k b f l => [.str "kept", .int b, .int f, .int l]
  | .both x y => [.str "&", .lst (trL x), .lst (trL y)]
  | .either x y => [.str "|", .lst (trL x), .lst (trL y)]
def trT (w : Wi) : T := .lst (trL w)
def iS (i : Int) : Str := ((toString i : String) : Str)
def txt : Wi → Str
  | .p s m => ("pieces " : Str) ++ iS s ++ (" " : Str) ++ iS m
  | .i s m => ("idle " : Str) ++ iS s ++ (" " : Str) ++ iS m
  | .k b f l => ("kept " : Str) ++ iS b ++ (" " : Str) ++ iS f ++ (" " : Str) ++ iS l
  | .both x y => ("(" : Str) ++ txt x ++ (" & " : Str) ++ txt y ++ (")" : Str)
  | .either x y => ("(" : Str) ++ txt x ++ (" | " : Str) ++ txt y ++ (")" : Str)
open Classical in
noncomputable def mpV (f r t b s : Int) : Int := if h : ∃ g : Nat, ∀ i, GB.E f r t b i < s ↔ i < g then ((Classical.choose h : Nat) : Int) else 0
open Classical in
noncomputable def nvV (f r t b : Int) (B F : Nat) : Int := if h : ∃ v, GR.IsMax (GR.Full f (GB.step f r t b) B (F - 1)) v then B - Classical.choose h else 0
noncomputable def met (f r t b : Int) : Wi → Bool
  | .p s m => decide (mpV f r t b s ≤ m)
  | .i s m => decide (mostIdle f r t b s ≤ m)
  | .k B F l => decide (l ≤ nvV f r t b B.toNat F.toNat)
  | .both x y => met f r t b x && met f r t b y
  | .either x y => met f r t b x || met f r t b y
def mk2 (a : Ad) (C : Addr) : Con := fun ts h Q E => ∃ p u v, ts = [.ref p, u, v] ∧ h p = some (.ins C []) ∧
  ((∃ s m, u = .int s ∧ v = .int m ∧ 0 ≤ s ∧ s ≤ 10 ^ 30 ∧ 0 ≤ m ∧ m ≤ 10 ^ 30 ∧ Q .non (put h p (.ins C [("size", .int s), ("most", .int m)]))) ∨
   (∃ k, kdOf h u = some k ∧ isInt u 0 (10 ^ 30) = false ∧ E (badN a u) h) ∨
   (∃ s k, u = .int s ∧ 0 ≤ s ∧ s ≤ 10 ^ 30 ∧ kdOf h v = some k ∧ isInt v 0 (10 ^ 30) = false ∧ E (badN a v) h))
def C_FewPieces___init__ (a : Ad) : Con := mk2 a a.c_FewPieces
def C_LittleIdle___init__ (a : Ad) : Con := mk2 a a.c_LittleIdle
def C_NoRefusal___init__ (a : Ad) : Con := fun ts h Q E => ∃ p y z l, ts = [.ref p, y, z, l] ∧ h p = some (.ins a.c_NoRefusal []) ∧
  BF h y z 1 (fun B F => (∃ m, l = .int m ∧ 0 ≤ m ∧ m ≤ 300 ∧ Q .non (put h p (.ins a.c_NoRefusal [("blocks", .int B), ("files", .int F), ("at_least", .int m)]))) ∨ (∃ k, kdOf h l = some k ∧ isInt l 0 300 = false ∧ E (badN a l) h)) (fun u => E (badN a u) h)
def C_BothWishes___init__ (a : Ad) : Con := fun ts h Q _ => ∃ p u v, ts = [.ref p, u, v] ∧ h p = some (.ins a.c_BothWishes []) ∧ Q .non (put h p (.ins a.c_BothWishes [("one", u), ("other", v)]))
def C_EitherWish___init__ (a : Ad) : Con := fun ts h Q _ => ∃ p u v, ts = [.ref p, u, v] ∧ h p = some (.ins a.c_EitherWish []) ∧ Q .non (put h p (.ins a.c_EitherWish [("one", u), ("other", v)]))
def Cw (a : Ad) (P : Wi → Prop) : Con := fun ts h Q _ => ∃ w B f r t b, ts = [wiT a w, B] ∧ P w ∧ w.Ok ∧ Bk a h B f r t b ∧ GB.Ok f r t b ∧ Q (.bl (met f r t b w)) h
def Cs (a : Ad) (P : Wi → Prop) : Con := fun ts h Q _ => ∃ w, ts = [wiT a w] ∧ P w ∧ w.Ok ∧ w.dep ≤ 4 ∧ Q (.str (txt w)) h
def isP (w : Wi) : Prop := ∃ s m, w = .p s m
def isI (w : Wi) : Prop := ∃ s m, w = .i s m
def isK9 (w : Wi) : Prop := ∃ b f l, w = .k b f l
def isB (n : Nat) (w : Wi) : Prop := (∃ x y, w = .both x y) ∧ w.dep ≤ n
def isE (n : Nat) (w : Wi) : Prop := (∃ x y, w = .either x y) ∧ w.dep ≤ n
def C_FewPieces___call__ (a : Ad) : Con := Cw a isP
def C_LittleIdle___call__ (a : Ad) : Con := Cw a isI
def C_NoRefusal___call__ (a : Ad) : Con := Cw a isK9
def C_BothWishes___call__ (a : Ad) (n : Nat) : Con := Cw a (isB n)
def C_EitherWish___call__ (a : Ad) (n : Nat) : Con := Cw a (isE n)
def C_FewPieces_shown (a : Ad) : Con := Cs a isP
def C_LittleIdle_shown (a : Ad) : Con := Cs a isI
def C_NoRefusal_shown (a : Ad) : Con := Cs a isK9
def C_BothWishes_shown (a : Ad) (n : Nat) : Con := Cs a (isB n)
def C_EitherWish_shown (a : Ad) (n : Nat) : Con := Cs a (isE n)
def D_call (a : Ad) (n : Nat) : List (Addr × Con) := [(a.c_FewPieces, C_FewPieces___call__ a), (a.c_LittleIdle, C_LittleIdle___call__ a), (a.c_NoRefusal, C_NoRefusal___call__ a), (a.c_BothWishes, C_BothWishes___call__ a n), (a.c_EitherWish, C_EitherWish___call__ a n)]
def D_shown (a : Ad) (n : Nat) : List (Addr × Con) := [(a.c_FewPieces, C_FewPieces_shown a), (a.c_LittleIdle, C_LittleIdle_shown a), (a.c_NoRefusal, C_NoRefusal_shown a), (a.c_BothWishes, C_BothWishes_shown a n), (a.c_EitherWish, C_EitherWish_shown a n)]
theorem isB_0 {w : Wi} (h : isB 0 w) : False := by
  obtain ⟨⟨x, y, rfl⟩, d⟩ := h
  exact absurd d (Nat.not_succ_le_zero _)
theorem isE_0 {w : Wi} (h : isE 0 w) : False := by
  obtain ⟨⟨x, y, rfl⟩, d⟩ := h
  exact absurd d (Nat.not_succ_le_zero _)
theorem no_BothWishes___call__ {a : Ad} {ts : List T} {h : Hq} {Q : TK} {E : Ex → Hq → Prop} : ¬ C_BothWishes___call__ a 0 ts h Q E := fun ⟨_, _, _, _, _, _, _, p, _⟩ => isB_0 p
theorem no_EitherWish___call__ {a : Ad} {ts : List T} {h : Hq} {Q : TK} {E : Ex → Hq → Prop} : ¬ C_EitherWish___call__ a 0 ts h Q E := fun ⟨_, _, _, _, _, _, _, p, _⟩ => isE_0 p
theorem no_BothWishes_shown {a : Ad} {ts : List T} {h : Hq} {Q : TK} {E : Ex → Hq → Prop} : ¬ C_BothWishes_shown a 0 ts h Q E := fun ⟨_, _, p, _⟩ => isB_0 p
theorem no_EitherWish_shown {a : Ad} {ts : List T} {h : Hq} {Q : TK} {E : Ex → Hq → Prop} : ¬ C_EitherWish_shown a 0 ts h Q E := fun ⟨_, _, p, _⟩ => isE_0 p
def C_Wish___and__ (a : Ad) : Con := fun ts h Q _ => ∃ x y, ts = [wiT a x, wiT a y] ∧ ∀ p, h p = none → Q (.ref p) (put h p (.ins a.c_BothWishes (wiF a (.both x y))))
def C_Wish___or__ (a : Ad) : Con := fun ts h Q _ => ∃ x y, ts = [wiT a x, wiT a y] ∧ ∀ p, h p = none → Q (.ref p) (put h p (.ins a.c_EitherWish (wiF a (.either x y))))
def C_Wish___eq__ (a : Ad) : Con := fun ts h Q _ => (∃ x y, ts = [wiT a x, wiT a y] ∧ x.Ok ∧ x.dep ≤ 4 ∧ y.Ok ∧ y.dep ≤ 4 ∧ Q (.bl (decide (txt x = txt y))) h) ∨ (∃ x z, ts = [wiT a x, .str z] ∧ Q (.bl false) h)
def C_law_wish (n : Nat) : Con := fun ts h Q _ => ∃ p, ∃ d : Nat, ts = [.ref p, .int d] ∧ h p = some .pool ∧ d < n ∧ ∀ w : Wi, w.dep ≤ d → w.Ok → ∀ l, h l = none → Q (.ref l) (put h l (.lst (trL w)))
def C_law_wished (a : Ad) (n : Nat) : Con := fun ts h Q _ => ∃ w : Wi, ts = [trT w] ∧ w.dep < n ∧ w.Ok ∧ ∀ p, h p = none → Q (.ref p) (put h p (.ins (wiC a w) (wiF a w)))
def C_law_met (a : Ad) (n : Nat) : Con := fun ts h Q _ => ∃ (w : Wi) (B : T) (f r t b : Int), ts = [trT w, B] ∧ w.dep < n ∧ w.Ok ∧ Bk a h B f r t b ∧ GB.Ok f r t b ∧ Q (.bl (met f r t b w)) h
def C_law_text (n : Nat) : Con := fun ts h Q _ => ∃ w : Wi, ts = [trT w] ∧ w.dep < n ∧ n ≤ 4 ∧ w.Ok ∧ Q (.str (txt w)) h
theorem no_law_wish {ts : List T} {h : Hq} {Q : TK} {E : Ex → Hq → Prop} : ¬ C_law_wish 0 ts h Q E := fun ⟨_, _, _, _, p, _⟩ => absurd p (Nat.not_lt_zero _)
theorem no_law_wished {a : Ad} {ts : List T} {h : Hq} {Q : TK} {E : Ex → Hq → Prop} : ¬ C_law_wished a 0 ts h Q E := fun ⟨_, _, p, _⟩ => absurd p (Nat.not_lt_zero _)
theorem no_law_met {a : Ad} {ts : List T} {h : Hq} {Q : TK} {E : Ex → Hq → Prop} : ¬ C_law_met a 0 ts h Q E := fun ⟨_, _, _, _, _, _, _, p, _⟩ => absurd p (Nat.not_lt_zero _)
theorem no_law_text {ts : List T} {h : Hq} {Q : TK} {E : Ex → Hq → Prop} : ¬ C_law_text 0 ts h Q E := fun ⟨_, _, p, _⟩ => absurd p (Nat.not_lt_zero _)
def pl8 : T → Bool
  | .non | .bl _ | .int _ | .str _ => true
  | _ => false
def badW (d : Int) (us : List T) (u : T) : Prop := ((d = 0 ∨ d = 1) ∧ ∃ x y, us = [x, y] ∧ pl8 x = true ∧ pl8 y = true ∧ ((isInt x 0 (10 ^ 30) = false ∧ u = x) ∨ (isInt x 0 (10 ^ 30) = true ∧ isInt y 0 (10 ^ 30) = false ∧ u = y))) ∨
  (d = 2 ∧ ∃ x y z, us = [x, y, z] ∧ pl8 x = true ∧ pl8 y = true ∧ pl8 z = true ∧ ((isInt x 1 300 = false ∧ u = x) ∨ (isInt x 1 300 = true ∧ isInt y 1 8 = false ∧ u = y) ∨ (isInt x 1 300 = true ∧ isInt y 1 8 = true ∧ isInt z 0 300 = false ∧ u = z)))
def C_law_refused (a : Ad) : Con := fun ts h Q _ => ∃ d us u z, ts = [.int d, .lst us] ∧ badW d us u ∧ reprT u = some z ∧ Q (.str z) h
def C_law_odd : Con := fun ts h Q _ => ts = [] ∧ Q (.bl true) h
def B_is_integer : SM :=
    (sRet (eAndV (eCB oIsi (aCons (eVar 0) (aCons (eC (.ty "int")) aNil))) (eAndV (eNotV (eCB oIsi (aCons (eVar 0) (aCons (eC (.ty "bool")) aNil)))) (eChain oLe oLe (eVar 1) (eVar 0) (eVar 2)))))
def B_check_integer (K : PySem.W.Frag) (a : Ad) : SM :=
    (sIf (tNotM (tTru (eFrz (eCall 3 C_is_integer (aCons (eVar 0) (aCons (eVar 1) (aCons (eVar 2) aNil))))))) (sRaise a.c_InvalidNumber "number" (aCons (eVar 0) aNil)) sNext)
def B_is_share : SM :=
    (sSeq (sIf (tOrM (tNotM (tTru (eCB oIsi (aCons (eVar 0) (aCons (eC (.ty "tuple")) aNil))))) (tOf (eOp oNe (eCB oLen (aCons (eVar 0) aNil)) (eC (.int 2))))) (sRet (eC (.bl false))) sNext)
    (sRet (eAndV (eFrz (eCall 3 C_is_integer (aCons (eOp oIx (eVar 0) (eC (.int 0))) (aCons (eC (.int 1)) (aCons (eC (.int 100)) aNil))))) (eFrz (eCall 3 C_is_integer (aCons (eOp oIx (eVar 0) (eC (.int 1))) (aCons (eC (.int 1)) (aCons (eC (.int 100)) aNil))))))))
def B_part_of : SM :=
    (sSeq (sAsg (eVar 0) (gTup 2 (gCons (gN 2) (gCons (gN 3) gNil))))
    (sRet (eNeg (eOp oDiv (eOp (oMul true) (eNeg (eVar 1)) (eVar 2)) (eVar 3)))))
def B_check_parts (K : PySem.W.Frag) (a : Ad) : SM :=
    (sSeq (sIf (tNotM (tTru (eFrz (eCall 3 C_is_integer (aCons (eVar 0) (aCons (eC (.int 1)) (aCons (eC (.int 1000000000000000000000000000000)) aNil))))))) (sRaise a.c_InvalidBook "part" (aCons (eC (.str "first")) aNil)) sNext)
    (sSeq (sIf (tOrM (tNotM (tTru (eFrz (eCall 3 C_is_integer (aCons (eVar 1) (aCons (eC (.int 1)) (aCons (eC (.int 1000000000000000000000000000000)) aNil))))))) (tOf (eOp oLt (eVar 1) (eVar 0)))) (sRaise a.c_InvalidBook "part" (aCons (eVar 3) aNil)) sNext)
    (sIf (tNotM (tTru (eFrz (eCall 1 C_is_share (aCons (eVar 2) aNil))))) (sRaise a.c_InvalidBook "part" (aCons (eC (.str "share")) aNil)) sNext)))
def B_Book___init__ (K : PySem.W.Frag) (a : Ad) : SM :=
    (sSeq (sDrop (eFrz (eCall 4 C_check_parts (aCons (eVar 1) (aCons (eVar 2) (aCons (eVar 3) (aCons (eC (.str "roof")) aNil)))))))
    (sSeq (sFldT a.c_Book "own_first" (eVar 0) (eVar 1))
    (sSeq (sFldT a.c_Book "own_roof" (eVar 0) (eVar 2))
    (sFldT a.c_Book "own_share" (eVar 0) (eVar 3)))))
def B_Book_first (K : PySem.W.Frag) (a : Ad) : SM :=
    (sRet (eFld a.c_Book "own_first" (eVar 0)))
def B_Book_roof (K : PySem.W.Frag) (a : Ad) : SM :=
    (sRet (eFld a.c_Book "own_roof" (eVar 0)))
def B_Book_step (K : PySem.W.Frag) (a : Ad) : SM :=
    (sSeq (sDrop (eFrz (eCall 3 (C_check_integer a) (aCons (eVar 1) (aCons (eC (.int 0)) (aCons (eC (.int 10000000000000000000000000000000000000000)) aNil))))))
    (sRet (eMeth a.c_Book "given" 2 (C_Book_given a) (eVar 0) (aCons (eVar 1) aNil))))
def B_Book_given (K : PySem.W.Frag) (a : Ad) : SM :=
    (sSeq (sAsg (eFrz (eCall 2 C_part_of (aCons (eFld a.c_Book "own_share" (eVar 0)) (aCons (eVar 1) aNil)))) (gN 2))
    (sSeq (sIf (tOf (eOp oLt (eVar 2) (eFld a.c_Book "own_first" (eVar 0)))) (sRet (eFld a.c_Book "own_first" (eVar 0))) sNext)
    (sRet (eIf (tOf (eOp oLt (eVar 2) (eFld a.c_Book "own_roof" (eVar 0)))) (eVar 2) (eFld a.c_Book "own_roof" (eVar 0))))))
def B_ramp (K : PySem.W.Frag) (a : Ad) : SM :=
    (sSeq (sAsg (eLst false (aCons (eC (.int 0)) aNil)) (gN 1))
    (sSeq (sAsg (eProp a.c_Book (C_Book_roof a) (eVar 0)) (gN 2))
    (sSeq (sAsg (eFrz (eMeth a.c_Book "step" 2 (C_Book_step a) (eVar 0) (aCons (eC (.int 0)) aNil))) (gN 3))
    (sSeq (sWhile (tOf (eOp oLt (eVar 3) (eVar 2))) (sSeq (sDrop (eBM isLs oApp (eVar 1) (aCons (eOp (oAdd true) (eOp oIx (eVar 1) (eC (.int (-1)))) (eVar 3)) aNil)))
    (sAsg (eFrz (eMeth a.c_Book "step" 2 (C_Book_step a) (eVar 0) (aCons (eOp oIx (eVar 1) (eC (.int (-1)))) aNil))) (gN 3))))
    (sRet (eVar 1))))))
def B_givings (K : PySem.W.Frag) (a : Ad) : SM :=
    (sSeq (sDrop (eFrz (eCall 3 (C_check_integer a) (aCons (eVar 1) (aCons (eC (.int 0)) (aCons (eC (.int 10000000000000000000000000000000000000000)) aNil))))))
    (sSeq (sAsg (eFrz (eCall 1 (C_ramp a) (aCons (eVar 0) aNil))) (gN 2))
    (sSeq (sIf (tOf (eOp oLe (eVar 1) (eOp oIx (eVar 2) (eC (.int (-1)))))) (sRet (eCB oLen (aCons (eLc true (iSeq (eVar 2)) (cN 3 [3]) (tOf (eOp oLt (eVar 3) (eVar 1))) (eVar 3)) aNil))) sNext)
    (sRet (eOp (oAdd false) (eCB oLen (aCons (eVar 2) aNil)) (eOp oDiv (eOp oSub (eOp oSub (eVar 1) (eOp oIx (eVar 2) (eC (.int (-1))))) (eC (.int 1))) (eProp a.c_Book (C_Book_roof a) (eVar 0))))))))
def B_most_pieces (K : PySem.W.Frag) (a : Ad) : SM :=
    (sSeq (sAsg (eFrz (eCall 2 (C_givings a) (aCons (eVar 0) (aCons (eVar 1) aNil)))) (gN 3))
    (sSeq (sIf (tNotM (tTru (eCB oIsi (aCons (eVar 2) (aCons (eC (.ty "bool")) aNil))))) (sRaise a.c_InvalidNumber "number" (aCons (eVar 2) aNil)) sNext)
    (sRet (eIf (tTru (eVar 2)) (eVar 1) (eVar 3)))))
def B_most_idle (K : PySem.W.Frag) (a : Ad) : SM :=
    (sSeq (sDrop (eFrz (eCall 3 (C_check_integer a) (aCons (eVar 1) (aCons (eC (.int 0)) (aCons (eC (.int 1000000000000000000000000000000)) aNil))))))
    (sSeq (sIf (tOf (eOp oEq (eVar 1) (eC (.int 0)))) (sRet (eC (.int 0))) sNext)
    (sSeq (sIf (tOf (eOp oGt (eVar 1) (eProp a.c_Book (C_Book_first a) (eVar 0)))) (sRet (eOp oSub (eFrz (eMeth a.c_Book "step" 2 (C_Book_step a) (eVar 0) (aCons (eOp oSub (eVar 1) (eC (.int 1))) aNil))) (eC (.int 1)))) sNext)
    (sRet (eOp oSub (eProp a.c_Book (C_Book_first a) (eVar 0)) (eVar 1))))))
def B_check_blocks (K : PySem.W.Frag) (a : Ad) : SM :=
    (sSeq (sDrop (eFrz (eCall 3 (C_check_integer a) (aCons (eVar 0) (aCons (eC (.int 1)) (aCons (eC (.int 300)) aNil))))))
    (sDrop (eFrz (eCall 3 (C_check_integer a) (aCons (eVar 1) (aCons (eVar 2) (aCons (eC (.int 8)) aNil)))))))
def B_whole_choices (K : PySem.W.Frag) (a : Ad) : SM :=
    (sSeq (sAsg eDNew (gN 2))
    (sSeq (sIf (tOf (eOp oLe (eProp a.c_Book (C_Book_first a) (eVar 0)) (eVar 1))) (sDPutT (eVar 2) (eProp a.c_Book (C_Book_first a) (eVar 0)) (eTup (aCons (eOp oSub (eProp a.c_Book (C_Book_first a) (eVar 0)) (eC (.int 1))) (aCons (eC (.lst [.int 1])) aNil)))) sNext)
    (sSeq (sFor (iRangeW (aCons (eProp a.c_Book (C_Book_first a) (eVar 0)) (aCons (eVar 1) aNil))) (gN 3) (sSeq (sAsg (eFrz (eMeth a.c_Book "step" 2 (C_Book_step a) (eVar 0) (aCons (eVar 3) aNil))) (gN 4))
    (sSeq (sAsg (eOp (oAdd true) (eVar 3) (eVar 4)) (gN 5))
    (sIf (tAndM (tOf (eOp oLe (eVar 5) (eVar 1))) (tOrM (tOf (eDIn true (eVar 5) (eVar 2))) (tOf (eOp oLt (eOp oIx (eDGet (eVar 2) (eVar 5)) (eC (.int 0))) (eOp oSub (eVar 4) (eC (.int 1))))))) (sDPutT (eVar 2) (eVar 5) (eTup (aCons (eOp oSub (eVar 4) (eC (.int 1))) (aCons (eLst true (aCons (eVar 3) (aCons (eC (.int 1)) aNil))) aNil)))) sNext))))
    (sRet (eVar 2)))))
def B_layers : SM :=
    (sSeq (sAsg (eLst false (aCons (eOp (oMul false) (eC (.lst [.non])) (eOp (oAdd true) (eVar 1) (eC (.int 1)))) aNil)) (gN 3))
    (sSeq (sAsg (eC (.tup [.int 0, .non, .non])) (gSub (eOp oIx (eVar 3) (eC (.int 0))) (eC (.int 0))))
    (sSeq (sFor (iRange1 (aCons (eVar 2) aNil)) (gN 4) (sSeq (sAsg (eOp oIx (eVar 3) (eC (.int (-1)))) (gN 5))
    (sSeq (sAsg (eLc false (iSeq (eVar 5)) (cN 7 [7]) tYes (eIf (tOf (eOp oIsN (eVar 7) (eC .non))) (eC .non) (eTup (aCons (eOp oIx (eVar 7) (eC (.int 0))) (aCons (eC (.int 0)) (aCons (eC .non) aNil)))))) (gN 6))
    (sSeq (sLk (sFor (iDict itemsT (eVar 0)) (gTup 2 (gCons (gN 8) (gCons (gTup 2 (gCons (gN 9) (gCons (gN 10) gNil))) gNil))) (sFor (iRange1 (aCons (eOp (oAdd true) (eOp oSub (eVar 1) (eVar 8)) (eC (.int 1))) aNil)) (gN 11) (sSeq (sAsg (eOp oIx (eVar 5) (eVar 11)) (gN 12))
    (sSeq (sIf (tOf (eOp oIsN (eVar 12) (eC .non))) sCont sNext)
    (sSeq (sAsg (eOp oIx (eVar 6) (eOp (oAdd true) (eVar 11) (eVar 8))) (gN 13))
    (sIf (tOrM (tOf (eOp oIsN (eVar 13) (eC .non))) (tOf (eOp oLt (eOp oIx (eVar 13) (eC (.int 0))) (eOp (oAdd true) (eOp oIx (eVar 12) (eC (.int 0))) (eVar 9))))) (sAsg (eTup (aCons (eOp (oAdd true) (eOp oIx (eVar 12) (eC (.int 0))) (eVar 9)) (aCons (eVar 8) (aCons (eVar 10) aNil)))) (gSub (eVar 6) (eOp (oAdd true) (eVar 11) (eVar 8)))) sNext)))))))
    (sDrop (eBM isLs oApp (eVar 3) (aCons (eVar 6) aNil)))))))
    (sRet (eVar 3)))))
def B_growths_at : SM :=
    (sSeq (sAsg (eLst false aNil) (gN 3))
    (sSeq (sWhile (tOf (eOp oGt (eVar 1) (eC (.int 0)))) (sSeq (sAsg (eOp oIx (eOp oIx (eVar 0) (eVar 1)) (eVar 2)) (gTup 3 (gCons (gN 4) (gCons (gN 5) (gCons (gN 6) gNil)))))
    (sSeq (sIf (tOf (eOp oNotN (eVar 6) (eC .non))) (sDrop (eBM isLs oApp (eVar 3) (aCons (eVar 6) aNil))) sNext)
    (sSeq (sAug 2 (eVar 5) oSub)
    (sAug 1 (eC (.int 1)) oSub)))))
    (sRet (eVar 3))))
def B_short_choices (K : PySem.W.Frag) (a : Ad) : SM :=
    (sSeq (sAsg (eLst false aNil) (gN 2))
    (sSeq (sFor (iRange1 (aCons (eVar 1) aNil)) (gN 3) (sIf (tOrM (tOf (eOp oEq (eVar 3) (eC (.int 0)))) (tOf (eOp oGe (eVar 3) (eProp a.c_Book (C_Book_first a) (eVar 0))))) (sSeq (sAsg (eCB oMin (aCons (eOp oSub (eCB oInt (aCons (eFrz (eMeth a.c_Book "step" 2 (C_Book_step a) (eVar 0) (aCons (eVar 3) aNil))) aNil)) (eC (.int 1))) (aCons (eOp oSub (eVar 1) (eVar 3)) aNil))) (gN 4))
    (sFor (iRange2 (aCons (eC (.int 1)) (aCons (eOp (oAdd true) (eVar 4) (eC (.int 1))) aNil))) (gN 5) (sDrop (eBM isLs oApp (eVar 2) (aCons (eTup (aCons (eOp (oAdd true) (eVar 3) (eVar 5)) (aCons (eOp oSub (eVar 5) (eC (.int 1))) (aCons (eIf (tOf (eOp oEq (eVar 3) (eC (.int 0)))) (eC (.lst [.int 1])) (eLst true (aCons (eVar 3) (aCons (eC (.int 1)) aNil)))) aNil)))) aNil))))) sNext))
    (sRet (eVar 2))))
def B_fullest (K : PySem.W.Frag) (a : Ad) : SM :=
    (sSeq (sAsg (eFrz (eCall 3 C_layers (aCons (eFrz (eCall 2 (C_whole_choices a) (aCons (eVar 0) (aCons (eVar 1) aNil)))) (aCons (eVar 1) (aCons (eVar 2) aNil))))) (gN 3))
    (sSeq (sAsg (eC (.tup [.int 0, .int 0, .lst []])) (gN 4))
    (sSeq (sFor (iEnum (aCons (eOp oIx (eVar 3) (eVar 2)) aNil)) (gTup 2 (gCons (gN 5) (gCons (gN 6) gNil))) (sIf (tAndM (tOf (eOp oNotN (eVar 6) (eC .non))) (tOf (eOp oGt (eOp oIx (eVar 6) (eC (.int 0))) (eOp oIx (eVar 4) (eC (.int 0)))))) (sAsg (eTup (aCons (eOp oIx (eVar 6) (eC (.int 0))) (aCons (eVar 5) (aCons (eFrz (eCall 3 C_growths_at (aCons (eVar 3) (aCons (eVar 2) (aCons (eVar 5) aNil))))) aNil)))) (gN 4)) sNext))
    (sSeq (sIf (tOf (eOp oEq (eVar 2) (eC (.int 0)))) (sRet (eVar 4)) sNext)
    (sSeq (sFor (iSeq (eFrz (eCall 2 (C_short_choices a) (aCons (eVar 0) (aCons (eVar 1) aNil))))) (gTup 3 (gCons (gN 7) (gCons (gN 8) (gCons (gN 9) gNil)))) (sSeq (sAsg (eOp oIx (eOp oIx (eVar 3) (eOp oSub (eVar 2) (eC (.int 1)))) (eOp oSub (eVar 1) (eVar 7))) (gN 10))
    (sIf (tAndM (tOf (eOp oNotN (eVar 10) (eC .non))) (tOf (eOp oGt (eOp (oAdd true) (eOp oIx (eVar 10) (eC (.int 0))) (eVar 8)) (eOp oIx (eVar 4) (eC (.int 0)))))) (sAsg (eTup (aCons (eOp (oAdd true) (eOp oIx (eVar 10) (eC (.int 0))) (eVar 8)) (aCons (eVar 1) (aCons (eOp (oAdd true) (eFrz (eCall 3 C_growths_at (aCons (eVar 3) (aCons (eOp oSub (eVar 2) (eC (.int 1))) (aCons (eOp oSub (eVar 1) (eVar 7)) aNil))))) (eLst true (aCons (eVar 9) aNil))) aNil)))) (gN 4)) sNext)))
    (sRet (eVar 4)))))))
def B_least_refused (K : PySem.W.Frag) (a : Ad) : SM :=
    (sSeq (sDrop (eFrz (eCall 3 (C_check_blocks a) (aCons (eVar 1) (aCons (eVar 2) (aCons (eC (.int 1)) aNil))))))
    (sRet (eOp oSub (eOp (oAdd true) (eVar 1) (eC (.int 1))) (eOp oIx (eFrz (eCall 3 (C_fullest a) (aCons (eVar 0) (aCons (eVar 1) (aCons (eOp oSub (eVar 2) (eC (.int 1))) aNil))))) (eC (.int 0))))))
def B_never_refused (K : PySem.W.Frag) (a : Ad) : SM :=
    (sRet (eOp oSub (eFrz (eCall 3 (C_least_refused a) (aCons (eVar 0) (aCons (eVar 1) (aCons (eVar 2) aNil))))) (eC (.int 1))))
def B_Wish___and__ (K : PySem.W.Frag) (a : Ad) : SM :=
    (sSeq (sIf (tNotM (tTru (eCB (oIsiC K) (aCons (eVar 1) (aCons (eC (.ref a.c_Wish)) aNil))))) sNever sNext)
    (sRet (eMake a.c_BothWishes 2 0 (C_BothWishes___init__ a) (aCons (eVar 0) (aCons (eVar 1) aNil)) aNil)))
def B_Wish___or__ (K : PySem.W.Frag) (a : Ad) : SM :=
    (sSeq (sIf (tNotM (tTru (eCB (oIsiC K) (aCons (eVar 1) (aCons (eC (.ref a.c_Wish)) aNil))))) sNever sNext)
    (sRet (eMake a.c_EitherWish 2 0 (C_EitherWish___init__ a) (aCons (eVar 0) (aCons (eVar 1) aNil)) aNil)))
def B_Wish___eq__ (K : PySem.W.Frag) (a : Ad) : SM :=
    (sRet (eAndV (eCB (oIsiC K) (aCons (eVar 1) (aCons (eC (.ref a.c_Wish)) aNil))) (eOp oEq (eFrz (eMethD (D_shown a 4) "shown" 1 (eVar 0))) (eFrz (eMethD (D_shown a 4) "shown" 1 (eVar 1))))))
def B_FewPieces___init__ (K : PySem.W.Frag) (a : Ad) : SM :=
    (sSeq (sDrop (eFrz (eCall 3 (C_check_integer a) (aCons (eVar 1) (aCons (eC (.int 0)) (aCons (eC (.int 1000000000000000000000000000000)) aNil))))))
    (sSeq (sDrop (eFrz (eCall 3 (C_check_integer a) (aCons (eVar 2) (aCons (eC (.int 0)) (aCons (eC (.int 1000000000000000000000000000000)) aNil))))))
    (sSeq (sFldT a.c_FewPieces "size" (eVar 0) (eVar 1))
    (sFldT a.c_FewPieces "most" (eVar 0) (eVar 2)))))
def B_FewPieces___call__ (K : PySem.W.Frag) (a : Ad) : SM :=
    (sRet (eOp oLe (eFrz (eCallK 2 0 3 (fun ts zs => match ts, zs with | [x0, x1], [] => [x0, x1, (.bl false)] | _, _ => []) (C_most_pieces a) (aCons (eVar 1) (aCons (eFld a.c_FewPieces "size" (eVar 0)) aNil)) aNil)) (eFld a.c_FewPieces "most" (eVar 0))))
def B_FewPieces_shown (K : PySem.W.Frag) (a : Ad) : SM :=
    (sRet (eJs [(eC (.str "pieces ")), (eFmt (eFld a.c_FewPieces "size" (eVar 0))), (eC (.str " ")), (eFmt (eFld a.c_FewPieces "most" (eVar 0)))]))
def B_LittleIdle___init__ (K : PySem.W.Frag) (a : Ad) : SM :=
    (sSeq (sDrop (eFrz (eCall 3 (C_check_integer a) (aCons (eVar 1) (aCons (eC (.int 0)) (aCons (eC (.int 1000000000000000000000000000000)) aNil))))))
    (sSeq (sDrop (eFrz (eCall 3 (C_check_integer a) (aCons (eVar 2) (aCons (eC (.int 0)) (aCons (eC (.int 1000000000000000000000000000000)) aNil))))))
    (sSeq (sFldT a.c_LittleIdle "size" (eVar 0) (eVar 1))
    (sFldT a.c_LittleIdle "most" (eVar 0) (eVar 2)))))
def B_LittleIdle___call__ (K : PySem.W.Frag) (a : Ad) : SM :=
    (sRet (eOp oLe (eFrz (eCall 2 (C_most_idle a) (aCons (eVar 1) (aCons (eFld a.c_LittleIdle "size" (eVar 0)) aNil)))) (eFld a.c_LittleIdle "most" (eVar 0))))
def B_LittleIdle_shown (K : PySem.W.Frag) (a : Ad) : SM :=
    (sRet (eJs [(eC (.str "idle ")), (eFmt (eFld a.c_LittleIdle "size" (eVar 0))), (eC (.str " ")), (eFmt (eFld a.c_LittleIdle "most" (eVar 0)))]))
def B_NoRefusal___init__ (K : PySem.W.Frag) (a : Ad) : SM :=
    (sSeq (sDrop (eFrz (eCall 3 (C_check_blocks a) (aCons (eVar 1) (aCons (eVar 2) (aCons (eC (.int 1)) aNil))))))
    (sSeq (sDrop (eFrz (eCall 3 (C_check_integer a) (aCons (eVar 3) (aCons (eC (.int 0)) (aCons (eC (.int 300)) aNil))))))
    (sSeq (sFldT a.c_NoRefusal "blocks" (eVar 0) (eVar 1))
    (sSeq (sFldT a.c_NoRefusal "files" (eVar 0) (eVar 2))
    (sFldT a.c_NoRefusal "at_least" (eVar 0) (eVar 3))))))
def B_NoRefusal___call__ (K : PySem.W.Frag) (a : Ad) : SM :=
    (sRet (eOp oGe (eFrz (eCall 3 (C_never_refused a) (aCons (eVar 1) (aCons (eFld a.c_NoRefusal "blocks" (eVar 0)) (aCons (eFld a.c_NoRefusal "files" (eVar 0)) aNil))))) (eFld a.c_NoRefusal "at_least" (eVar 0))))
def B_NoRefusal_shown (K : PySem.W.Frag) (a : Ad) : SM :=
    (sRet (eJs [(eC (.str "kept ")), (eFmt (eFld a.c_NoRefusal "blocks" (eVar 0))), (eC (.str " ")), (eFmt (eFld a.c_NoRefusal "files" (eVar 0))), (eC (.str " ")), (eFmt (eFld a.c_NoRefusal "at_least" (eVar 0)))]))
def B_BothWishes___init__ (K : PySem.W.Frag) (a : Ad) : SM :=
    (sSeq (sFldT a.c_BothWishes "one" (eVar 0) (eVar 1))
    (sFldT a.c_BothWishes "other" (eVar 0) (eVar 2)))
def B_BothWishes___call__ (K : PySem.W.Frag) (a : Ad) (n : Nat) : SM :=
    (sRet (eAndV (eFrz (eOwnD (D_call a n) 2 (eFld a.c_BothWishes "one" (eVar 0)) (aCons (eVar 1) aNil))) (eFrz (eOwnD (D_call a n) 2 (eFld a.c_BothWishes "other" (eVar 0)) (aCons (eVar 1) aNil)))))
def B_BothWishes_shown (K : PySem.W.Frag) (a : Ad) (n : Nat) : SM :=
    (sRet (eJs [(eC (.str "(")), (eFmt (eFrz (eMethD (D_shown a n) "shown" 1 (eFld a.c_BothWishes "one" (eVar 0))))), (eC (.str " & ")), (eFmt (eFrz (eMethD (D_shown a n) "shown" 1 (eFld a.c_BothWishes "other" (eVar 0))))), (eC (.str ")"))]))
def B_EitherWish___init__ (K : PySem.W.Frag) (a : Ad) : SM :=
    (sSeq (sFldT a.c_EitherWish "one" (eVar 0) (eVar 1))
    (sFldT a.c_EitherWish "other" (eVar 0) (eVar 2)))
def B_EitherWish___call__ (K : PySem.W.Frag) (a : Ad) (n : Nat) : SM :=
    (sRet (eOrV (eFrz (eOwnD (D_call a n) 2 (eFld a.c_EitherWish "one" (eVar 0)) (aCons (eVar 1) aNil))) (eFrz (eOwnD (D_call a n) 2 (eFld a.c_EitherWish "other" (eVar 0)) (aCons (eVar 1) aNil)))))
def B_EitherWish_shown (K : PySem.W.Frag) (a : Ad) (n : Nat) : SM :=
    (sRet (eJs [(eC (.str "(")), (eFmt (eFrz (eMethD (D_shown a n) "shown" 1 (eFld a.c_EitherWish "one" (eVar 0))))), (eC (.str " | ")), (eFmt (eFrz (eMethD (D_shown a n) "shown" 1 (eFld a.c_EitherWish "other" (eVar 0))))), (eC (.str ")"))]))
def B_law_hand : SM :=
    (sSeq (sAsg (eOp oIx (eOp (oAdd true) (eSl true (eVar 0) (mPart (eVar 1)) (mPart (eOp (oAdd true) (eVar 1) (eC (.int 1))))) (eC (.lst [.int 0]))) (eC (.int 0))) (gN 2))
    (sSeq (sAsg (eOp oMod (eOp (oMul true) (eOp (oAdd true) (eOp (oAdd true) (eOp oMod (eCB oInt (aCons (eVar 2) aNil)) (eC (.int 2147483647))) (eOp (oMul true) (eC (.int 7919)) (eVar 1))) (eC (.int 1))) (eC (.int 48271))) (eC (.int 2147483629))) (gN 3))
    (sRet (eLst false (aCons (eOp (oMul true) (eCB oInt (aCons (eOp oGe (eVar 2) (eC (.int (10 ^ 18)))) aNil)) (eVar 2)) (aCons (eVar 3) aNil))))))
def B_law_draw : SM :=
    (sSeq (sIf (tOf (eOp oGt (eOp oIx (eVar 0) (eC (.int 0))) (eC (.int 0)))) (sSeq (sAsg (eOp oMod (eCB oInt (aCons (eOp oIx (eVar 0) (eC (.int 0))) aNil)) (eVar 1)) (gN 2))
    (sSeq (sAsg (eOp oDiv (eOp oIx (eVar 0) (eC (.int 0))) (eVar 1)) (gSub (eVar 0) (eC (.int 0))))
    (sRet (eVar 2)))) sNext)
    (sSeq (sAsg (eOp oMod (eCB oInt (aCons (eOp (oAdd true) (eOp (oMul true) (eOp oIx (eVar 0) (eC (.int 1))) (eC (.int 48271))) (eC (.int 11))) aNil)) (eC (.int 2147483647))) (gSub (eVar 0) (eC (.int 1))))
    (sRet (eOp oMod (eOp oDiv (eOp oMod (eCB oInt (aCons (eOp (oMul true) (eOp oIx (eVar 0) (eC (.int 1))) (eOp oIx (eVar 0) (eC (.int 1)))) aNil)) (eC (.int 2147483629))) (eC (.int 64))) (eVar 1)))))
def B_law_parts : SM :=
    (sSeq (sAsg (eOp oIx (eC (.lst [.int 1, .int 1, .int 2, .int 3, .int 4, .int 7])) (eFrz (eCall 2 CDraw (aCons (eVar 0) (aCons (eC (.int 6)) aNil))))) (gN 1))
    (sSeq (sAsg (eOp (oAdd true) (eVar 1) (eOp oIx (eC (.lst [.int 0, .int 0, .int 1, .int 5, .int 20, .int 100])) (eFrz (eCall 2 CDraw (aCons (eVar 0) (aCons (eC (.int 6)) aNil)))))) (gN 2))
    (sSeq (sAsg (eTup (aCons (eOp (oAdd true) (eC (.int 1)) (eFrz (eCall 2 CDraw (aCons (eVar 0) (aCons (eC (.int 5)) aNil))))) (aCons (eOp (oAdd true) (eC (.int 1)) (eFrz (eCall 2 CDraw (aCons (eVar 0) (aCons (eC (.int 5)) aNil))))) aNil))) (gN 3))
    (sSeq (sAsg (eOp oIx (eLst true (aCons (eC (.tup [.int 1, .int 1])) (aCons (eC (.tup [.int 1, .int 1])) (aCons (eC (.tup [.int 1, .int 2])) (aCons (eC (.tup [.int 2, .int 3])) (aCons (eC (.tup [.int 1, .int 10])) (aCons (eVar 3) aNil))))))) (eFrz (eCall 2 CDraw (aCons (eVar 0) (aCons (eC (.int 6)) aNil))))) (gN 4))
    (sRet (eTup (aCons (eVar 1) (aCons (eVar 2) (aCons (eVar 4) aNil)))))))))
def B_law_book (K : PySem.W.Frag) (a : Ad) : SM :=
    (sRet (eMakeX a.c_Book 2 1 4 (fun ts zs => match ts, zs with | [x0, x1, x2], [k0] => [x0, x1, x2, k0] | _, _ => []) (C_Book___init__ a) (aCons (eOp oIx (eVar 0) (eC (.int 0))) (aCons (eOp oIx (eVar 0) (eC (.int 1))) aNil)) (aCons (eOp oIx (eVar 0) (eC (.int 2))) aNil)))
def B_law_wish (K : PySem.W.Frag) (a : Ad) (n : Nat) : SM :=
    (sSeq (sAsg (eFrz (eCall 2 CDraw (aCons (eVar 0) (aCons (eC (.int 5)) aNil)))) (gN 2))
    (sSeq (sIf (tAndM (tOf (eOp oGt (eVar 1) (eC (.int 0)))) (tOf (eOp oGt (eVar 2) (eC (.int 2))))) (sRet (eLst false (aCons (eOp oIx (eC (.str "&|")) (eOp oSub (eVar 2) (eC (.int 3)))) (aCons (eFrz (eCall 2 (C_law_wish n) (aCons (eVar 0) (aCons (eOp oSub (eVar 1) (eC (.int 1))) aNil)))) (aCons (eFrz (eCall 2 (C_law_wish n) (aCons (eVar 0) (aCons (eOp oSub (eVar 1) (eC (.int 1))) aNil)))) aNil))))) sNext)
    (sSeq (sIf (tOf (eOp oEq (eVar 2) (eC (.int 0)))) (sRet (eLst false (aCons (eC (.str "pieces")) (aCons (eFrz (eCall 2 CDraw (aCons (eVar 0) (aCons (eC (.int 60)) aNil)))) (aCons (eFrz (eCall 2 CDraw (aCons (eVar 0) (aCons (eC (.int 20)) aNil)))) aNil))))) sNext)
    (sSeq (sIf (tOf (eOp oEq (eVar 2) (eC (.int 1)))) (sRet (eLst false (aCons (eC (.str "idle")) (aCons (eFrz (eCall 2 CDraw (aCons (eVar 0) (aCons (eC (.int 60)) aNil)))) (aCons (eFrz (eCall 2 CDraw (aCons (eVar 0) (aCons (eC (.int 30)) aNil)))) aNil))))) sNext)
    (sRet (eLst false (aCons (eC (.str "kept")) (aCons (eOp (oAdd true) (eC (.int 1)) (eFrz (eCall 2 CDraw (aCons (eVar 0) (aCons (eC (.int 20)) aNil))))) (aCons (eOp (oAdd true) (eC (.int 1)) (eFrz (eCall 2 CDraw (aCons (eVar 0) (aCons (eC (.int 4)) aNil))))) (aCons (eFrz (eCall 2 CDraw (aCons (eVar 0) (aCons (eC (.int 22)) aNil)))) aNil))))))))))
def B_law_wished (K : PySem.W.Frag) (a : Ad) (n : Nat) : SM :=
    (sSeq (sIf (tOf (eOp oEq (eOp oIx (eVar 0) (eC (.int 0))) (eC (.str "pieces")))) (sRet (eMake a.c_FewPieces 2 0 (C_FewPieces___init__ a) (aCons (eOp oIx (eVar 0) (eC (.int 1))) (aCons (eOp oIx (eVar 0) (eC (.int 2))) aNil)) aNil)) sNext)
    (sSeq (sIf (tOf (eOp oEq (eOp oIx (eVar 0) (eC (.int 0))) (eC (.str "idle")))) (sRet (eMake a.c_LittleIdle 2 0 (C_LittleIdle___init__ a) (aCons (eOp oIx (eVar 0) (eC (.int 1))) (aCons (eOp oIx (eVar 0) (eC (.int 2))) aNil)) aNil)) sNext)
    (sSeq (sIf (tOf (eOp oEq (eOp oIx (eVar 0) (eC (.int 0))) (eC (.str "kept")))) (sRet (eMake a.c_NoRefusal 3 0 (C_NoRefusal___init__ a) (aCons (eOp oIx (eVar 0) (eC (.int 1))) (aCons (eOp oIx (eVar 0) (eC (.int 2))) (aCons (eOp oIx (eVar 0) (eC (.int 3))) aNil))) aNil)) sNext)
    (sSeq (sPar 1 2 (aCons (eFrz (eCall 1 (C_law_wished a n) (aCons (eOp oIx (eVar 0) (eC (.int 1))) aNil))) (aCons (eFrz (eCall 1 (C_law_wished a n) (aCons (eOp oIx (eVar 0) (eC (.int 2))) aNil))) aNil)))
    (sRet (eIf (tOf (eOp oEq (eOp oIx (eVar 0) (eC (.int 0))) (eC (.str "&")))) (eOp (oOwnM (fam_cs a) (C_Wish___and__ a)) (eVar 1) (eVar 2)) (eOp (oOwnM (fam_cs a) (C_Wish___or__ a)) (eVar 1) (eVar 2))))))))
def B_law_met (K : PySem.W.Frag) (a : Ad) (n : Nat) : SM :=
    (sSeq (sIf (tOf (eOp oEq (eOp oIx (eVar 0) (eC (.int 0))) (eC (.str "pieces")))) (sRet (eOp oLe (eFrz (eCallK 2 0 3 (fun ts zs => match ts, zs with | [x0, x1], [] => [x0, x1, (.bl false)] | _, _ => []) (C_most_pieces a) (aCons (eVar 1) (aCons (eOp oIx (eVar 0) (eC (.int 1))) aNil)) aNil)) (eOp oIx (eVar 0) (eC (.int 2))))) sNext)
    (sSeq (sIf (tOf (eOp oEq (eOp oIx (eVar 0) (eC (.int 0))) (eC (.str "idle")))) (sRet (eOp oLe (eFrz (eCall 2 (C_most_idle a) (aCons (eVar 1) (aCons (eOp oIx (eVar 0) (eC (.int 1))) aNil)))) (eOp oIx (eVar 0) (eC (.int 2))))) sNext)
    (sSeq (sIf (tOf (eOp oEq (eOp oIx (eVar 0) (eC (.int 0))) (eC (.str "kept")))) (sRet (eOp oGe (eFrz (eCall 3 (C_never_refused a) (aCons (eVar 1) (aCons (eOp oIx (eVar 0) (eC (.int 1))) (aCons (eOp oIx (eVar 0) (eC (.int 2))) aNil))))) (eOp oIx (eVar 0) (eC (.int 3))))) sNext)
    (sSeq (sPar 2 3 (aCons (eFrz (eCall 2 (C_law_met a n) (aCons (eOp oIx (eVar 0) (eC (.int 1))) (aCons (eVar 1) aNil)))) (aCons (eFrz (eCall 2 (C_law_met a n) (aCons (eOp oIx (eVar 0) (eC (.int 2))) (aCons (eVar 1) aNil)))) aNil)))
    (sRet (eIf (tOf (eOp oEq (eOp oIx (eVar 0) (eC (.int 0))) (eC (.str "&")))) (eAndV (eVar 2) (eVar 3)) (eOrV (eVar 2) (eVar 3))))))))
def B_law_text (K : PySem.W.Frag) (a : Ad) (n : Nat) : SM :=
    (sSeq (sIf (tOf (eOp (oInS true) (eOp oIx (eVar 0) (eC (.int 0))) (eC (.tup [.str "&", .str "|"])))) (sRet (eBM isSt oJoin (eC (.str " ")) (aCons (eLc true (iSeq (eVar 0)) (cN 1 [1]) tYes (eCB oStrC (aCons (eVar 1) aNil))) aNil))) sNext)
    (sRet (eOp (oAdd false) (eOp (oAdd true) (eOp (oAdd true) (eOp (oAdd true) (eOp (oAdd true) (eOp (oAdd true) (eC (.str "(")) (eFrz (eCall 1 (C_law_text n) (aCons (eOp oIx (eVar 0) (eC (.int 1))) aNil)))) (eC (.str " "))) (eOp oIx (eVar 0) (eC (.int 0)))) (eC (.str " "))) (eFrz (eCall 1 (C_law_text n) (aCons (eOp oIx (eVar 0) (eC (.int 2))) aNil)))) (eC (.str ")")))))
def B_law_refused (K : PySem.W.Frag) (a : Ad) : SM :=
    (sSeq (sTry K (.ref a.c_GrowError) 2 (sIf (tOf (eOp oEq (eVar 0) (eC (.int 0)))) (sDrop (eFrz (eMake a.c_FewPieces 2 0 (C_FewPieces___init__ a) (aCons (eOp oIx (eVar 1) (eC (.int 0))) (aCons (eOp oIx (eVar 1) (eC (.int 1))) aNil)) aNil))) (sIf (tOf (eOp oEq (eVar 0) (eC (.int 1)))) (sDrop (eFrz (eMake a.c_LittleIdle 2 0 (C_LittleIdle___init__ a) (aCons (eOp oIx (eVar 1) (eC (.int 0))) (aCons (eOp oIx (eVar 1) (eC (.int 1))) aNil)) aNil))) (sDrop (eFrz (eMake a.c_NoRefusal 3 0 (C_NoRefusal___init__ a) (aCons (eOp oIx (eVar 1) (eC (.int 0))) (aCons (eOp oIx (eVar 1) (eC (.int 1))) (aCons (eOp oIx (eVar 1) (eC (.int 2))) aNil))) aNil))))) (fun ea ecls ed => (sRet (eAndV (eCB (oIsE K ea ecls ed) (aCons (eVar 2) (aCons (eC (.ref a.c_InvalidNumber)) aNil))) (eAndV (eNotV (eCB (oIsE K ea ecls ed) (aCons (eVar 2) (aCons (eC (.ref a.c_InvalidChoice)) aNil)))) (eCB oRepr (aCons (eXf K ea ecls ed "number" (eVar 2)) aNil)))))))
    (sRet (eC .non)))
def B_law_odd (K : PySem.W.Frag) (a : Ad) : SM :=
    (sSeq (sFor (iSeq (eC (.lst [.non, .bl true, .int (0 - 1), .str "1", .int ((10 ^ 30) + 1)]))) (gN 0) (sSeq (sFor (iRange1 (aCons (eC (.int 2)) aNil)) (gN 1) (sIf (tOrM (tOf (eOp oNe (eFrz (eCall 2 (C_law_refused a) (aCons (eVar 1) (aCons (eLst true (aCons (eVar 0) (aCons (eC .non) aNil))) aNil)))) (eCB oRepr (aCons (eVar 0) aNil)))) (tOf (eOp oNe (eFrz (eCall 2 (C_law_refused a) (aCons (eVar 1) (aCons (eLst true (aCons (eC (.int 7)) (aCons (eVar 0) aNil))) aNil)))) (eCB oRepr (aCons (eVar 0) aNil))))) (sRet (eC (.bl false))) sNext))
    (sSeq (sIf (tOrM (tOf (eOp oNe (eFrz (eCall 2 (C_law_refused a) (aCons (eC (.int 2)) (aCons (eLst true (aCons (eVar 0) (aCons (eC .non) (aCons (eC .non) aNil)))) aNil)))) (eCB oRepr (aCons (eVar 0) aNil)))) (tOf (eOp oNe (eFrz (eCall 2 (C_law_refused a) (aCons (eC (.int 2)) (aCons (eLst true (aCons (eC (.int 7)) (aCons (eVar 0) (aCons (eC .non) aNil)))) aNil)))) (eCB oRepr (aCons (eVar 0) aNil))))) (sRet (eC (.bl false))) sNext)
    (sIf (tOf (eOp oNe (eFrz (eCall 2 (C_law_refused a) (aCons (eC (.int 2)) (aCons (eLst true (aCons (eC (.int 7)) (aCons (eC (.int 2)) (aCons (eVar 0) aNil)))) aNil)))) (eCB oRepr (aCons (eVar 0) aNil)))) (sRet (eC (.bl false))) sNext))))
    (sSeq (sFor (iSeq (eC (.lst [.tup [.lst [.int 0, .int 1, .int 1], .int 0], .tup [.lst [.int 301, .int 1, .int 1], .int 0], .tup [.lst [.int 7, .int 0, .int 1], .int 1], .tup [.lst [.int 7, .int 9, .int 1], .int 1], .tup [.lst [.int 7, .int 2, .int 301], .int 2]]))) (gTup 2 (gCons (gN 2) (gCons (gN 3) gNil))) (sIf (tOf (eOp oNe (eFrz (eCall 2 (C_law_refused a) (aCons (eC (.int 2)) (aCons (eVar 2) aNil)))) (eCB oRepr (aCons (eOp oIx (eVar 2) (eVar 3)) aNil)))) (sRet (eC (.bl false))) sNext))
    (sRet (eC (.bl true)))))
def B_law (K : PySem.W.Frag) (a : Ad) : SM :=
    (sSeq (sFor (iRange1 (aCons (eCB oMax (aCons (eC (.int 1)) (aCons (eCB oMin (aCons (eCB oLen (aCons (eVar 0) aNil)) (aCons (eC (.int 4)) aNil))) aNil))) aNil)) (gN 1) (sSeq (sAsg (eFrz (eCall 2 CHand (aCons (eVar 0) (aCons (eVar 1) aNil)))) (gN 2))
    (sSeq (sAsg (eFrz (eCall 1 (C_law_book a) (aCons (eFrz (eCall 1 C_law_parts (aCons (eVar 2) aNil))) aNil))) (gN 3))
    (sSeq (sAsg (eLst false (aCons (eFrz (eCall 2 (C_law_wish 3) (aCons (eVar 2) (aCons (eC (.int 2)) aNil)))) (aCons (eFrz (eCall 2 (C_law_wish 3) (aCons (eVar 2) (aCons (eFrz (eCall 2 CDraw (aCons (eVar 2) (aCons (eC (.int 3)) aNil)))) aNil)))) aNil))) (gN 4))
    (sSeq (sDrop (eBM isLs oApp (eVar 4) (aCons (eLst true (aCons (eC (.str "&")) (aCons (eOp oIx (eVar 4) (eC (.int 0))) (aCons (eOp oIx (eVar 4) (eC (.int 1))) aNil)))) aNil)))
    (sSeq (sAsg (eLc true (iSeq (eVar 4)) (cN 6 [6]) tYes (eFrz (eCall 1 (C_law_wished a 4) (aCons (eVar 6) aNil)))) (gN 5))
    (sSeq (sFor (iRange1 (aCons (eC (.int 3)) aNil)) (gN 7) (sSeq (sAsg (eFrz (eOwnD (D_call a 4) 2 (eOp oIx (eVar 5) (eVar 7)) (aCons (eVar 3) aNil))) (gN 8))
    (sSeq (sIf (tOrM (tNotM (tTru (eCB oIsi (aCons (eVar 8) (aCons (eC (.ty "bool")) aNil))))) (tOrM (tOf (eOp oNe (eVar 8) (eFrz (eCall 2 (C_law_met a 4) (aCons (eOp oIx (eVar 4) (eVar 7)) (aCons (eVar 3) aNil)))))) (tNotM (tTru (eCB (oIsiC K) (aCons (eOp oIx (eVar 5) (eVar 7)) (aCons (eC (.ref a.c_Wish)) aNil))))))) (sRet (eC (.bl false))) sNext)
    (sSeq (sIf (tOrM (tOf (eOp oNe (eFrz (eMethD (D_shown a 4) "shown" 1 (eOp oIx (eVar 5) (eVar 7)))) (eFrz (eCall 1 (C_law_text 4) (aCons (eOp oIx (eVar 4) (eVar 7)) aNil))))) (tOf (eOp (oOwnS (fam_cs a) (C_Wish___eq__ a)) (eOp oIx (eVar 5) (eVar 7)) (eFrz (eCall 1 (C_law_text 4) (aCons (eOp oIx (eVar 4) (eVar 7)) aNil)))))) (sRet (eC (.bl false))) sNext)
    (sFor (iRange1 (aCons (eC (.int 3)) aNil)) (gN 9) (sSeq (sAsg (eOp oEq (eFrz (eCall 1 (C_law_text 4) (aCons (eOp oIx (eVar 4) (eVar 7)) aNil))) (eFrz (eCall 1 (C_law_text 4) (aCons (eOp oIx (eVar 4) (eVar 9)) aNil)))) (gN 10))
    (sIf (tOf (eOp oNe (eOp (oOwnM (fam_cs a) (C_Wish___eq__ a)) (eOp oIx (eVar 5) (eVar 7)) (eOp oIx (eVar 5) (eVar 9))) (eVar 10))) (sRet (eC (.bl false))) sNext)))))))
    (sSeq (sAsg (eFrz (eOp (oOwnM (fam_cs a) (C_Wish___or__ a)) (eOp oIx (eVar 5) (eC (.int 0))) (eOp oIx (eVar 5) (eC (.int 1))))) (gN 11))
    (sIf (tOrM (tOf (eOp oNe (eFrz (eOwnD (D_call a 4) 2 (eVar 11) (aCons (eVar 3) aNil))) (eOrV (eFrz (eOwnD (D_call a 4) 2 (eOp oIx (eVar 5) (eC (.int 0))) (aCons (eVar 3) aNil))) (eFrz (eOwnD (D_call a 4) 2 (eOp oIx (eVar 5) (eC (.int 1))) (aCons (eVar 3) aNil)))))) (tNotM (tTru (eFrz (eCall 0 C_law_odd aNil))))) (sRet (eC (.bl false))) sNext)))))))))
    (sRet (eC (.bl true))))
end TL

namespace TL
open PySem L2
local macro_rules | `(tactic| dsimp! [$ls,*]) => `(tactic| (try simp only [$ls,*, lim, oOwn, oIsiC, view_bl, dep_bl, eqT_tt, eqT_ff, eqT_tf, eqT_ft, eDIn, eDGet, eDGet2, eDisp, mPairs, keyTs, eLstR2, oListD, eOwnCall, sPropT, dOf, sDPutT, sLk, eLk, iDict, oDict, eDNew, eDc, keyT, eMakeX, eCallK, eRev, oRepr, eMeth, eProp, eFld, eMake, sRaise, sPar3, ends, startT, eVar, eC, eOp, tOf, eChain, tAndM, tOrM, tNotM, eAndV, eOrV, eNotV, eIf, aNil, aCons, eTup, eLst, eFrz, frzK, oI, oIC, oSub, oMod, oDiv, oPow, oLt, oLe, oGt, oGe, oAddI', oAddL, oMulI', oAdd, oMul, eNeg, oIsN, oNotN, oIx, atK, mNo, mPart, eSl, eCB, oLen, oInt, oSumL, oMax2, oMin2, oMax1, oMin1, oList, oBls, eCall, eBM, eBM0, isLs, oApp, oPop, oExt, lsOf, tTru, sNext, sSeq, sDrop, sRet, sRetN, sIf, sBreak, sCont, sNever, gN, gNil, gCons, gTup, setT, gSub, sAsg, sPar, sAug, oIxL, sAugS, oAddI, sFor, eLc, iSeq, iRange1, iRange2, iRangeW, iEnum, tYes, oIsi, kdOf, oEq, oNe, eqT_int, eqT_nn, eqT_in, eqT_ni,   atI_0, atI_1, atI_2, atI_3, atI_4, atI_5, atI_6, atI_7, atI_8, atI_m1, ixN_0, ixN_1,   kdN_int, kdN_bool, kdN_str, kdN_list, kdN_tuple, isK, view_int, view_non, dep_int, dep_non, cN, cN2, wipeT,   mk_true, mk_false, put_same, put_put,   List.map_cons, List.map_nil, List.length_cons, List.length_nil, List.replicate, List.cons_append, List.nil_append, List.append_nil, List.set_cons_zero, List.set_cons_succ, List.getElem?_cons_zero, List.getElem?_cons_succ, List.getElem?_nil, Nat.reduceAdd, Nat.reduceSub, Nat.reduceLeDiff, Nat.reduceLT, Nat.reduceEqDiff, Option.isSome_some, Option.isSome_none, true_and, and_true, if_true, if_false, Bool.false_eq_true, Bool.not_true, Bool.not_false, reduceCtorEq, Nat.zero_add, Nat.zero_le, decide_eq_true_eq, Bool.not_eq_true', decide_eq_false_iff_not, ite_true, ite_false, Bool.if_false_right, Bool.if_true_left, decide_true, decide_false, Bool.true_or, Bool.or_true, Bool.false_or, Bool.or_false, Bool.true_and, Bool.and_true, Bool.false_and, Bool.and_false, List.length_map, not_true_eq_false, not_false_eq_true, false_and, and_false, bne_self_eq_false, Bool.not_eq_false]))

theorem pl_law_draw : ∀ ts h Q E, ts.length = 2 → CxDraw ts h Q E → B_law_draw (ends Q E) (startT N_law_draw.length ts) h := by
  rintro ts h Q E - ⟨p, n, a, b, rfl, n0, n1, hp, ⟨a0, b0, b1⟩, q⟩
  unfold B_law_draw
  dsimp! [hp]
  split
  · refine ⟨n0, ⟨n0, n1⟩, dn_self (q _ _ _ (Int.emod_nonneg _ (by omega)) (Int.emod_lt_of_pos _ n0) ⟨Int.ediv_nonneg a0 (by omega), b0, b1⟩)⟩
  · have c0 := Int.emod_nonneg (b * 48271 + 11) (show (2147483647 : Int) ≠ 0 by decide)
    have c1 := Int.emod_lt_of_pos (b * 48271 + 11) (show (0 : Int) < 2147483647 by decide)
    generalize (b * 48271 + 11) % 2147483647 = c at *
    refine ⟨.inl (by omega), by decide, .inl (by omega), by decide, ⟨by decide, by decide⟩, n0, dn_self (q _ _ _ (Int.emod_nonneg _ (by omega)) (Int.emod_lt_of_pos _ n0) ⟨a0, c0, c1⟩)⟩
theorem cell_at (ns : List Int) (lo hi : Option Int) : ∃ c, atI (cutT (ns.map T.int) lo hi ++ [T.int 0]) 0 = some (.int c) ∧ (cutT (ns.map T.int) lo hi).length ≤ ns.length := by
  unfold cutT
  rw [← List.map_drop, ← List.map_take]
  generalize e : (List.drop _ ns).take _ = xs
  have hl : xs.length ≤ ns.length := by
    rw [← e, List.length_take, List.length_drop]; omega
  cases xs with
  | nil => exact ⟨0, atI_0, by simp⟩
  | cons x r => exact ⟨x, atI_0, by simpa using hl⟩
theorem pl_law_hand : ∀ ts h Q E, ts.length = 2 → CxHand ts h Q E → B_law_hand (ends Q E) (startT N_law_hand.length ts) h := by
  rintro ts h Q E - ⟨ns, k, rfl, k0, k1, hn, q⟩
  unfold B_law_hand
  obtain ⟨c, hc, hl⟩ := cell_at ns (some k) (some (k + 1))
  dsimp! [hc]
  have e18 : (10 : Int) ^ 18 = 1000000000000000000 := by decide
  have d0 := Int.emod_nonneg c (show (2147483647 : Int) ≠ 0 by decide)
  have d1 := Int.emod_lt_of_pos c (show (0 : Int) < 2147483647 by decide)
  generalize c % 2147483647 = d at *
  have s0 := Int.emod_nonneg ((d + 7919 * k + 1) * 48271) (show (2147483629 : Int) ≠ 0 by decide)
  have s1 := Int.emod_lt_of_pos ((d + 7919 * k + 1) * 48271) (show (0 : Int) < 2147483629 by decide)
  refine ⟨by omega, by decide, .inl (by decide), .inl (by omega), by decide, .inl (by split <;> decide), fun p hp => dn_self (q _ _ ⟨?_, s0, by omega⟩ p hp)⟩
  rw [e18]
  split <;> omega
theorem pl_is_integer : ∀ ts h Q E, ts.length = 3 → C_is_integer ts h Q E → B_is_integer (ends Q E) (startT N_is_integer.length ts) h := by
  rintro ts h Q E - ⟨x, a, b, k, rfl, hk, q⟩
  unfold B_is_integer
  cases x with
  | int i =>
    dsimp! [isInt]
    simp only [isInt] at q
    by_cases c : a ≤ i
    · simp [c] at q ⊢; exact dn_self q
    · simp [c] at q ⊢; exact dn_self q
  | ref p =>
    simp only [kdOf] at hk
    split at hk
    · rename_i ts e
      dsimp! [e]
      exact dn_self q
    · cases hk
  | non => dsimp! [isInt]; exact dn_self q
  | bl b => dsimp! [isInt]; exact dn_self q
  | str z => dsimp! [isInt]; exact dn_self q
  | tup z => dsimp! [isInt]; exact dn_self q
  | lst z => dsimp! [isInt]; exact dn_self q
  | ins _ _ => cases hk
  | ty _ => cases hk
  | scr _ => cases hk
  | exc _ _ _ _ => cases hk
  | xob _ _ => cases hk
theorem seq_gen {a b : SM} {D : En} {s : Sl} {h : Hq} (h1 : ∀ N : SK, (∀ s h, b D s h → N s h) → a { nx := N, rt := D.rt, bk := D.bk, ct := D.ct, ex := D.ex } s h) : sSeq a b D s h := h1 _ fun _ _ q => q
theorem sIf_gen {c : TM} {x y : SM} {D : En} {s : Sl} {h : Hq} (h1 : ∀ N1 N2 : SK, (∀ s h, x D s h → N1 s h) → (∀ s h, y D s h → N2 s h) → c s h (fun d h1 => if d = true then N1 s h1 else N2 s h1) D.ex) : sIf c x y D s h := h1 _ _ (fun _ _ q => q) (fun _ _ q => q)
theorem cells (ns : List Int) (m : Int) (h1 : 1 ≤ m) (h2 : m ≤ 63) : ∃ k : Nat, (k : Int) ≤ m ∧ (if (if m < (ns.length : Int) then m else (ns.length : Int)) > 1 then (if m < (ns.length : Int) then m else (ns.length : Int)) else 1) = (k : Int) := by
  refine ⟨(if (if m < (ns.length : Int) then m else (ns.length : Int)) > 1 then (if m < (ns.length : Int) then m else (ns.length : Int)) else 1).toNat, ?_, ?_⟩ <;> (split <;> split <;> omega)
theorem gN_go {i : Nat} {t : T} {s : Sl} {h : Hq} {Q : SK} {E : EX} (q : Q (s.set i (some t)) h) : gN i t s h Q E := q
theorem lk_first {f r t b : Int} : List.lookup ("own_first" : Str) (bkF f r t b) = some (.int f) := rfl
theorem lk_roof {f r t b : Int} : List.lookup ("own_roof" : Str) (bkF f r t b) = some (.int r) := rfl
theorem lk_share {f r t b : Int} : List.lookup ("own_share" : Str) (bkF f r t b) = some (shT t b) := rfl
theorem lk_given {f r t b : Int} : List.lookup ("given" : Str) (bkF f r t b) = none := rfl
theorem lk_step {f r t b : Int} : List.lookup ("step" : Str) (bkF f r t b) = none := rfl
theorem p30 : (1000000000000000000000000000000 : Int) = 10 ^ 30 := by decide
theorem p40 : (10000000000000000000000000000000000000000 : Int) = 10 ^ 40 := by decide
section
variable {K : PySem.W.Frag} {mg : Str → Option Value} {a : Ad}
theorem pl_check_integer (Z : Tx K mg a) : ∀ ts h Q E, ts.length = 3 → C_check_integer a ts h Q E → B_check_integer K a (ends Q E) (startT N_check_integer.length ts) h := by
  rintro ts h Q E - ⟨x, l, m, rfl, hh⟩
  unfold B_check_integer
  rcases hh with ⟨i, rfl, h1, h2, q⟩ | ⟨k, hk, hi, q⟩
  · dsimp! [C_is_integer]
    refine ⟨.int i, l, m, .int, rfl, rfl, ?_⟩
    dsimp! [isInt, h1, h2]
    exact dn_self q
  · dsimp! [C_is_integer]
    refine ⟨x, l, m, k, rfl, hk, ?_⟩
    rw [hi]
    dsimp! [sRaise]
    exact dnX_self q
theorem pl_part_of : ∀ ts h Q E, ts.length = 2 → C_part_of ts h Q E → B_part_of (ends Q E) (startT N_part_of.length ts) h := by
  rintro ts h Q E - ⟨t, b, k, rfl, t1, t2, b1, b2, q⟩
  unfold B_part_of
  dsimp! [shT]
  exact ⟨.inr (.inl (by omega)), ⟨by omega, by omega⟩, dn_self q⟩
theorem Bk.put {h : Hq} {x : T} {f r t b : Int} (hx : Bk a h x f r t b) {p : Addr} {o : O} (np : h p = none) : Bk a (put h p o) x f r t b := by
  unfold Bk insOf at *
  cases x <;> try exact hx
  rename_i q
  dsimp only at *
  rw [put_ne (fun z => by rw [z, np] at hx; cases hx)]
  exact hx
theorem pl_Book_given (Z : Tx K mg a) : ∀ ts h Q E, ts.length = 2 → C_Book_given a ts h Q E → B_Book_given K a (ends Q E) (startT N_Book_given.length ts) h := by
  rintro ts h Q E - ⟨x, f, r, t, b, k, rfl, hx, o, q⟩
  unfold B_Book_given
  unfold Bk at hx
  have o' := o
  obtain ⟨f1, fr, r1, t1, t2, b1, b2⟩ := o'
  dsimp! [eFld, hx, lk_share, C_part_of]
  refine ⟨t, b, k, rfl, t1, t2, b1, b2, ?_⟩
  unfold GB.step at q
  dsimp! [hx, lk_first, lk_roof]
  by_cases c1 : GB.part t b k < f
  · rw [if_pos c1] at q
    dsimp! [c1]
    exact dn_self q
  · rw [if_neg c1] at q
    by_cases c2 : GB.part t b k < r
    · rw [if_pos c2] at q
      dsimp! [c1, c2]
      exact dn_self q
    · rw [if_neg c2] at q
      dsimp! [c1, c2]
      exact dn_self q
theorem pl_Book_step (Z : Tx K mg a) : ∀ ts h Q E, ts.length = 2 → C_Book_step a ts h Q E → B_Book_step K a (ends Q E) (startT N_Book_step.length ts) h := by
  rintro ts h Q E - ⟨x, f, r, t, b, y, rfl, hx, o, hh⟩
  unfold B_Book_step
  have hx' := hx
  unfold Bk at hx
  dsimp! [C_check_integer, eMeth, hx, lk_given, C_Book_given, p40]
  rcases hh with ⟨k, rfl, k0, k1, q⟩ | ⟨k, hk, hi, q⟩
  · exact ⟨_, _, _, rfl, .inl ⟨k, rfl, k0, k1, x, f, r, t, b, k, rfl, hx', o, dn_self q⟩⟩
  · exact ⟨_, _, _, rfl, .inr ⟨k, hk, hi, dnX_self q⟩⟩
theorem pl_Book_first (Z : Tx K mg a) : ∀ ts h Q E, ts.length = 1 → C_Book_first a ts h Q E → B_Book_first K a (ends Q E) (startT N_Book_first.length ts) h := by
  rintro ts h Q E - ⟨x, f, r, t, b, rfl, hx, q⟩
  unfold B_Book_first
  unfold Bk at hx
  dsimp! [eFld, hx, lk_first]
  exact dn_self q
theorem pl_Book_roof (Z : Tx K mg a) : ∀ ts h Q E, ts.length = 1 → C_Book_roof a ts h Q E → B_Book_roof K a (ends Q E) (startT N_Book_roof.length ts) h := by
  rintro ts h Q E - ⟨x, f, r, t, b, rfl, hx, q⟩
  unfold B_Book_roof
  unfold Bk at hx
  dsimp! [eFld, hx, lk_roof]
  exact dn_self q
theorem pl_is_share : ∀ ts h Q E, ts.length = 1 → C_is_share ts h Q E → B_is_share (ends Q E) (startT N_is_share.length ts) h := by
  rintro ts h Q E - ⟨t, b, rfl, t1, t2, b1, b2, q⟩
  unfold B_is_share
  have e2 : ((2 : Nat) : Int) = 2 := rfl
  dsimp! [shT, C_is_integer, e2]
  refine ⟨_, 1, 100, .int, rfl, rfl, ?_⟩
  dsimp! [isInt, t1, t2]
  refine ⟨_, 1, 100, .int, rfl, rfl, ?_⟩
  dsimp! [isInt, b1, b2]
  exact dn_self q
theorem pl_check_parts (Z : Tx K mg a) : ∀ ts h Q E, ts.length = 4 → C_check_parts ts h Q E → B_check_parts K a (ends Q E) (startT N_check_parts.length ts) h := by
  rintro ts h Q E - ⟨f, r, t, b, x, rfl, o, q⟩
  unfold B_check_parts
  obtain ⟨f1, fr, r1, t1, t2, b1, b2⟩ := o
  have f2 : f ≤ 10 ^ 30 := by omega
  have r0 : 1 ≤ r := by omega
  have nr : ¬ r < f := by omega
  dsimp! [C_is_integer, p30]
  refine ⟨_, 1, _, .int, rfl, rfl, ?_⟩
  dsimp! [isInt, f1, f2]
  refine ⟨_, 1, _, .int, rfl, rfl, ?_⟩
  dsimp! [isInt, r0, r1, nr, C_is_share]
  exact ⟨t, b, rfl, t1, t2, b1, b2, dn_self q⟩
theorem pt1 {x : T} : putT ("own_first" : Str) x [] = [(("own_first" : Str), x)] := rfl
theorem pt2 {x y : T} : putT ("own_roof" : Str) y [(("own_first" : Str), x)] = [(("own_first" : Str), x), (("own_roof" : Str), y)] := rfl
theorem pt3 {x y z : T} : putT ("own_share" : Str) z [(("own_first" : Str), x), (("own_roof" : Str), y)] = [(("own_first" : Str), x), (("own_roof" : Str), y), (("own_share" : Str), z)] := rfl
theorem pl_Book___init__ (Z : Tx K mg a) : ∀ ts h Q E, ts.length = 4 → C_Book___init__ a ts h Q E → B_Book___init__ K a (ends Q E) (startT N_Book___init__.length ts) h := by
  rintro ts h Q E - ⟨p, f, r, t, b, rfl, o, hp, q⟩
  unfold B_Book___init__
  dsimp! [C_check_parts]
  refine ⟨f, r, t, b, _, rfl, o, ?_⟩
  dsimp! [sFldT, hp, pt1, pt2, pt3]
  exact dn_self q
theorem pl_law_book (Z : Tx K mg a) : ∀ ts h Q E, ts.length = 1 → C_law_book a ts h Q E → B_law_book K a (ends Q E) (startT N_law_book.length ts) h := by
  rintro ts h Q E - ⟨f, r, t, b, rfl, o, q⟩
  unfold B_law_book
  dsimp! [ptT, C_Book___init__]
  intro p np
  refine ⟨p, f, r, t, b, rfl, o, put_same, ?_⟩
  rw [put_put]
  exact dn_self (q p np)
theorem pl_law_parts : ∀ ts h Q E, ts.length = 1 → C_law_parts ts h Q E → B_law_parts (ends Q E) (startT N_law_parts.length ts) h := by
  rintro ts h Q E - ⟨p, rfl, hp, q⟩
  unfold B_law_parts
  dsimp! [CDraw]
  refine ⟨p, 6, rfl, by decide, by decide, hp, fun r1 r10 r11 => ?_⟩
  have c1 : ∃ f : Int, atI ([.int 1, .int 1, .int 2, .int 3, .int 4, .int 7] : List T) r1 = some (T.int f) ∧ 1 ≤ f ∧ f ≤ 7 := by
    have : r1 = 0 ∨ r1 = 1 ∨ r1 = 2 ∨ r1 = 3 ∨ r1 = 4 ∨ r1 = 5 := by omega
    rcases this with rfl | rfl | rfl | rfl | rfl | rfl <;> exact ⟨_, rfl, by decide, by decide⟩
  obtain ⟨f, e1, f1, f7⟩ := c1
  dsimp! [e1]
  refine ⟨p, 6, rfl, by decide, by decide, hp, fun r2 r20 r21 => ?_⟩
  have c2 : ∃ d : Int, atI ([.int 0, .int 0, .int 1, .int 5, .int 20, .int 100] : List T) r2 = some (T.int d) ∧ 0 ≤ d ∧ d ≤ 100 := by
    have : r2 = 0 ∨ r2 = 1 ∨ r2 = 2 ∨ r2 = 3 ∨ r2 = 4 ∨ r2 = 5 := by omega
    rcases this with rfl | rfl | rfl | rfl | rfl | rfl <;> exact ⟨_, rfl, by decide, by decide⟩
  obtain ⟨d, e2, d1, d7⟩ := c2
  dsimp! [e2]
  refine ⟨p, 5, rfl, by decide, by decide, hp, fun r3 r30 r31 => ?_⟩
  refine ⟨p, 5, rfl, by decide, by decide, hp, fun r4 r40 r41 => ?_⟩
  refine ⟨p, 6, rfl, by decide, by decide, hp, fun r5 r50 r51 => ?_⟩
  have c3 : ∃ t b : Int, atI ([.tup [.int 1, .int 1], .tup [.int 1, .int 1], .tup [.int 1, .int 2], .tup [.int 2, .int 3], .tup [.int 1, .int 10], .tup [.int (1 + r3), .int (1 + r4)]] : List T) r5 = some (shT t b) ∧ 1 ≤ t ∧ t ≤ 10 ∧ 1 ≤ b ∧ b ≤ 10 := by
    have : r5 = 0 ∨ r5 = 1 ∨ r5 = 2 ∨ r5 = 3 ∨ r5 = 4 ∨ r5 = 5 := by omega
    rcases this with rfl | rfl | rfl | rfl | rfl | rfl
    · exact ⟨_, _, rfl, by decide, by decide, by decide, by decide⟩
    · exact ⟨_, _, rfl, by decide, by decide, by decide, by decide⟩
    · exact ⟨_, _, rfl, by decide, by decide, by decide, by decide⟩
    · exact ⟨_, _, rfl, by decide, by decide, by decide, by decide⟩
    · exact ⟨_, _, rfl, by decide, by decide, by decide, by decide⟩
    · exact ⟨_, _, rfl, by omega, by omega, by omega, by omega⟩
  obtain ⟨t, b, e3, t1, t2, b1, b2⟩ := c3
  dsimp! [e3]
  refine dn_self (q f (f + d) t b ⟨f1, by omega, ?_, t1, by omega, b1, by omega⟩ f7 (by omega) t2 b2)
  exact Int.le_trans (show f + d ≤ 107 by omega) (by decide)
theorem endsT_succ (f r t b : Int) (n : Nat) : endsT f r t b (n + 1) = endsT f r t b n ++ [.int (GB.E f r t b (n + 1))] := by
  unfold endsT
  rw [List.range_succ, List.map_append]
  rfl
theorem endsT_last (f r t b : Int) (n : Nat) : atI (endsT f r t b n) (-1) = some (.int (GB.E f r t b n)) := by
  unfold endsT
  rw [List.range_succ, List.map_append]
  exact atI_m1
theorem endsT_len (f r t b : Int) (n : Nat) : (endsT f r t b n).length = n + 1 := by unfold endsT; simp
theorem pl_ramp (Z : Tx K mg a) : ∀ ts h Q E, ts.length = 1 → C_ramp a ts h Q E → B_ramp K a (ends Q E) (startT N_ramp.length ts) h := by
  rintro ts h Q E - ⟨x, f, r, t, b, rfl, hx, o, q⟩
  unfold B_ramp
  dsimp! [eProp, eMeth]
  intro p np
  have hb : ∀ o, Bk a (put h p o) x f r t b := fun o => hx.put np
  have hi : ∀ o, insOf (put h p o) x = some (a.c_Book, bkF f r t b) := hb
  dsimp! [hi, lk_step, C_Book_roof, C_Book_step]
  refine ⟨x, f, r, t, b, rfl, hb _, ?_⟩
  dsimp! [hi, lk_step]
  refine ⟨x, f, r, t, b, _, rfl, hb _, o, .inl ⟨0, rfl, by decide, by decide, ?_⟩⟩
  dsimp! [sWhile]
  refine ⟨fun k s h' => ∃ n : Nat, k = 20001 - n ∧ (∀ i, i < n → GB.step f r t b (GB.E f r t b i) < r) ∧ s = [some x, some (.ref p), some (.int r), some (.int (GB.step f r t b (GB.E f r t b n)))] ∧ h' = put h p (.lst (endsT f r t b n)), ⟨20001, 0, rfl, (fun i hi => absurd hi (Nat.not_lt_zero i)), rfl, rfl⟩, ?_⟩
  rintro k s h' ⟨n, rfl, low, rfl, rfl⟩
  have hn := GB.low_few o low
  dsimp! [endsT_last]
  by_cases c : GB.step f r t b (GB.E f r t b n) < r
  · have hg := (GB.low_grow o c).2
    have h0 := GB.E_nonneg o (n + 1)
    have hE := GB.E_succ o n
    have sl := GB.step_le o (GB.E f r t b n)
    have r1 := o.r1
    have hl : (endsT f r t b n).length < 1000000 := by rw [endsT_len]; omega
    have e1 : endsT f r t b n ++ [T.int (GB.E f r t b n + GB.step f r t b (GB.E f r t b n))] = endsT f r t b (n + 1) := by rw [endsT_succ, hE]
    dsimp! [c, hl, e1, endsT_last, hi, lk_step, C_Book_step]
    refine ⟨x, f, r, t, b, _, rfl, hb _, o, .inl ⟨_, rfl, h0, ?_, ?_⟩⟩
    · have e40 : (10 : Int) ^ 32 + 10 ^ 30 ≤ 10 ^ 40 := by decide
      omega
    · have low' : ∀ i, i < n + 1 → GB.step f r t b (GB.E f r t b i) < r := fun i hi => by
        by_cases z : i = n
        · subst z; exact c
        · exact low i (by omega)
      have := GB.low_few o low'
      dsimp! [ends]
      exact ⟨20001 - (n + 1), by omega, n + 1, rfl, low', rfl, rfl⟩
  · dsimp! [c]
    exact dn_self (q n ⟨by omega, low, hn⟩ p np)
theorem pl_givings (Z : Tx K mg a) : ∀ ts h Q E, ts.length = 2 → C_givings a ts h Q E → B_givings K a (ends Q E) (startT N_givings.length ts) h := by
  rintro ts h Q E - ⟨x, f, r, t, b, y, rfl, hx, o, hh⟩
  unfold B_givings
  have hi : insOf h x = some (a.c_Book, bkF f r t b) := hx
  dsimp! [C_check_integer, C_ramp, p40]
  rcases hh with ⟨k, rfl, k0, k1, q⟩ | ⟨k, hk, hi, q⟩
  · refine ⟨_, _, _, rfl, .inl ⟨k, rfl, k0, k1, x, f, r, t, b, rfl, hx, o, fun n R p np => ?_⟩⟩
    dsimp! [del_put np, endsT_last]
    have hr : 0 < r := by have := o.f1; have := o.fr; omega
    have hl : (endsT f r t b n).length ≤ 1000000 := by rw [endsT_len]; have := R.few; omega
    by_cases c : k ≤ GB.E f r t b n
    · dsimp! [c]
      obtain ⟨g, hg, hE⟩ := GB.count_low o c
      refine lcK_fA (enc := fun i => T.int (GB.E f r t b i)) (xs := List.range (n + 1)) (fun i => if decide (GB.E f r t b i < k) = true then some (T.int (GB.E f r t b i)) else none) trivial (by rw [List.length_range]; have := R.few; omega) (fun i _ R2 r2 => ?_) ?_
      · dsimp! [ends]
        by_cases c2 : GB.E f r t b i < k
        · simp [c2] at r2 ⊢; exact r2
        · simp [c2] at r2 ⊢; exact r2
      · rw [mk_true, filterMap_ite]
        dsimp! [ends]
        rw [GB.count_len o (Nat.le_succ_of_le hg) hE]
        exact dn_self (q g hE)
    · have c' : GB.E f r t b n < k := by omega
      dsimp! [c, hi, C_Book_roof]
      refine ⟨x, f, r, t, b, rfl, hx, ?_⟩
      have r2 : r < 2 ^ 250 := Int.lt_of_le_of_lt o.r1 (by decide)
      have q0 : 0 ≤ (k - GB.E f r t b n - 1) / r := Int.ediv_nonneg (by omega) (by omega)
      dsimp! [endsT_len]
      refine ⟨⟨hr, r2⟩, ?_⟩
      have e : (((n + 1 : Nat) : Int) + (k - GB.E f r t b n - 1) / r) = ((n + 1 + ((k - GB.E f r t b n - 1) / r).toNat : Nat) : Int) := by omega
      rw [e]
      exact dn_self (q _ (GB.count_top o R.top c'))
  · exact ⟨_, _, _, rfl, .inr ⟨k, hk, hi, dnX_self q⟩⟩
theorem pl_most_idle (Z : Tx K mg a) : ∀ ts h Q E, ts.length = 2 → C_most_idle a ts h Q E → B_most_idle K a (ends Q E) (startT N_most_idle.length ts) h := by
  rintro ts h Q E - ⟨x, f, r, t, b, y, rfl, hx, o, hh⟩
  unfold B_most_idle
  have hi : insOf h x = some (a.c_Book, bkF f r t b) := hx
  dsimp! [C_check_integer, C_Book_first, C_Book_step, p30, hi, lk_step]
  rcases hh with ⟨k, rfl, k0, k1, q⟩ | ⟨k, hk, hi, q⟩
  · refine ⟨_, _, _, rfl, .inl ⟨k, rfl, k0, k1, ?_⟩⟩
    unfold mostIdle at q
    by_cases c : k = 0
    · rw [if_pos c] at q
      dsimp! [c]
      exact dn_self q
    · rw [if_neg c] at q
      dsimp! [c, hi]
      refine ⟨x, f, r, t, b, rfl, hx, ?_⟩
      by_cases c2 : f < k
      · rw [if_pos c2] at q
        dsimp! [c2, hi, lk_step]
        refine ⟨x, f, r, t, b, _, rfl, hx, o, .inl ⟨_, rfl, by omega, ?_, ?_⟩⟩
        · have : (10 : Int) ^ 30 ≤ 10 ^ 40 := by decide
          omega
        · dsimp! [ends]
          exact dn_self q
      · rw [if_neg c2] at q
        dsimp! [c2, hi]
        exact ⟨x, f, r, t, b, rfl, hx, dn_self q⟩
  · exact ⟨_, _, _, rfl, .inr ⟨k, hk, hi, dnX_self q⟩⟩
theorem pl_most_pieces (Z : Tx K mg a) : ∀ ts h Q E, ts.length = 3 → C_most_pieces a ts h Q E → B_most_pieces K a (ends Q E) (startT N_most_pieces.length ts) h := by
  rintro ts h Q E - ⟨x, f, r, t, b, y, z, rfl, hx, o, hh⟩
  unfold B_most_pieces
  dsimp! [C_givings]
  rcases hh with ⟨k, rfl, k0, k1, hz⟩ | ⟨k, hk, hi, q⟩
  · refine ⟨x, f, r, t, b, _, rfl, hx, o, .inl ⟨k, rfl, k0, k1, fun g hg => ?_⟩⟩
    rcases hz with ⟨v, rfl, q⟩ | ⟨kz, hkz, nb, q⟩
    · dsimp! [ends]
      have := q g hg
      cases v
      · dsimp! [ends]; simp at this ⊢; exact dn_self this
      · dsimp! [ends]; simp at this ⊢; exact dn_self this
    · have e : ∀ (A : Prop), (match kdOf h z, kdN "bool" with | some k, some c => (if isK k c = true then A else dnX E (badN a z) h) | _, _ => False) = dnX E (badN a z) h := fun A => by
        rw [hkz, kdN_bool]
        have : isK kz .bl = false := by cases kz <;> first | rfl | exact absurd rfl nb
        dsimp only
        rw [this]; simp
      cases z with
      | bl v => cases hkz; exact absurd rfl nb
      | non => dsimp! [ends]; exact dnX_self q
      | int i => dsimp! [ends]; exact dnX_self q
      | str s => dsimp! [ends]; exact dnX_self q
      | tup s => dsimp! [ends]; exact dnX_self q
      | lst s => dsimp! [ends]; exact dnX_self q
      | ref p =>
        simp only [kdOf] at hkz
        split at hkz
        · rename_i ts e
          dsimp! [e]; exact dnX_self q
        · cases hkz
      | ins _ _ => cases hkz
      | ty _ => cases hkz
      | scr _ => cases hkz
      | exc _ _ _ _ => cases hkz
      | xob _ _ => cases hkz
  · exact ⟨x, f, r, t, b, y, rfl, hx, o, .inr ⟨k, hk, hi, dnX_self q⟩⟩
theorem pl_check_blocks (Z : Tx K mg a) : ∀ ts h Q E, ts.length = 3 → C_check_blocks a ts h Q E → B_check_blocks K a (ends Q E) (startT N_check_blocks.length ts) h := by
  rintro ts h Q E - ⟨y, z, l, rfl, hh⟩
  unfold B_check_blocks
  dsimp! [C_check_integer]
  rcases hh with ⟨B, F, rfl, b1, b2, rfl, f1, f2, q⟩ | ⟨B, rfl, b1, b2, k, hk, hi, q⟩ | ⟨k, hk, hi, q⟩
  · exact ⟨_, _, _, rfl, .inl ⟨B, rfl, by omega, by omega, _, _, _, rfl, .inl ⟨F, rfl, f1, by omega, dn_self q⟩⟩⟩
  · exact ⟨_, _, _, rfl, .inl ⟨B, rfl, by omega, by omega, _, _, _, rfl, .inr ⟨k, hk, hi, dnX_self q⟩⟩⟩
  · exact ⟨_, _, _, rfl, .inr ⟨k, hk, hi, dnX_self q⟩⟩
theorem GrOk.wc {f : Int} {st : Int → Int} {c : Int × Int × T} (g : GrOk f st c) : GR.WC f st c.1 c.2.1 := by
  rcases g with ⟨h1, h2, _⟩ | ⟨h, h0, h1, h2, _⟩
  · exact .inl ⟨h1, h2⟩
  · exact .inr ⟨h, h0, h1, h2⟩
structure WInv (f : Int) (st : Int → Int) (B m : Nat) (cs : List (Int × Int × T)) : Prop where
  ok : ∀ c ∈ cs, GrOk f st c ∧ c.1 ≤ B
  one : f ≤ B → ∃ i g, GR.lookC cs f = some (i, g) ∧ f - 1 ≤ i
  all : ∀ j : Nat, j < m → f + j + st (f + j) ≤ B → ∃ i g, GR.lookC cs (f + j + st (f + j)) = some (i, g) ∧ st (f + j) - 1 ≤ i
  len : cs.length ≤ m + 1
theorem putC_len (cs : List (Int × Int × T)) (t i : Int) (g : T) : (GR.putC cs t i g).length ≤ cs.length + 1 := by
  unfold GR.putC
  split <;> simp
theorem look_keep {cs : List (Int × Int × T)} {t i t' : Int} {g : T} {j : Int} (le : ∀ i' g', GR.lookC cs t = some (i', g') → i' ≤ i) (h : ∃ i' g', GR.lookC cs t' = some (i', g') ∧ j ≤ i') : ∃ i' g', GR.lookC (GR.putC cs t i g) t' = some (i', g') ∧ j ≤ i' := by
  rw [GR.look_put]
  obtain ⟨i', g', e, l⟩ := h
  by_cases c : t' = t
  · subst c
    rw [if_pos rfl]
    exact ⟨i, g, rfl, Int.le_trans l (le _ _ e)⟩
  · rw [if_neg c]
    exact ⟨i', g', e, l⟩
theorem WInv.csok {f : Int} {st : Int → Int} {B : Nat} {cs : List (Int × Int × T)} (f1 : 1 ≤ f) (s1 : ∀ h, 1 ≤ st h) (w : WInv f st B ((B : Int) - f).toNat cs) : GR.CsOk f st B cs := by
  refine ⟨fun c hc => ⟨(w.ok c hc).1.wc, (w.ok c hc).2⟩, fun t i hw hB => ?_⟩
  rcases hw with ⟨rfl, rfl⟩ | ⟨h, h0, rfl, rfl⟩
  · obtain ⟨i', g, e, l⟩ := w.one hB
    exact ⟨i', g, GR.look_mem e, l⟩
  · have hs := s1 h
    obtain ⟨i', g, e, l⟩ := w.all (h - f).toNat (by omega) (by rw [show f + ((h - f).toNat : Int) = h by omega]; exact hB)
    rw [show f + ((h - f).toNat : Int) = h by omega] at e l
    exact ⟨i', g, GR.look_mem e, l⟩
theorem valT_ch (cs : List (Int × Int × T)) (t : Int) : valT (cs.map chT) (.inl t) = (GR.lookC cs t).map fun q => T.tup [.int q.1, q.2] := by
  unfold valT GR.lookC
  induction cs with
  | nil => rfl
  | cons c cs ih =>
    rw [List.map_cons, List.find?_cons, List.find?_cons]
    by_cases e : c.1 = t
    · simp [chT, e]
    · have e' : ¬ (chT c).1 = Sum.inl t := fun z => by cases z; exact e rfl
      simp only [e, e', decide_false]
      exact ih
theorem putD_ch (cs : List (Int × Int × T)) (t i : Int) (g : T) : putD (cs.map chT) (.inl t) (.tup [.int i, g]) = (GR.putC cs t i g).map chT := by
  have ha : ((cs.map chT).any fun kv => decide (kv.1 = Sum.inl t)) = cs.any fun c => decide (c.1 = t) := by
    rw [List.any_map]
    congr 1
    funext c
    show decide ((chT c).1 = Sum.inl t) = _
    by_cases e : c.1 = t
    · simp [chT, e]
    · have e' : ¬ (chT c).1 = Sum.inl t := fun z => by cases z; exact e rfl
      simp only [e, e', decide_false]
  unfold putD GR.putC
  rw [ha]
  split
  · rw [List.map_map, List.map_map]
    congr 1
    funext c
    show (if (chT c).1 = Sum.inl t then ((chT c).1, T.tup [.int i, g]) else chT c) = chT (if c.1 = t then (c.1, i, g) else c)
    by_cases e : c.1 = t
    · rw [if_pos e, if_pos (by show Sum.inl c.1 = _; rw [e])]; rfl
    · have e' : ¬ (chT c).1 = Sum.inl t := fun z => by cases z; exact e rfl
      rw [if_neg e, if_neg e']
  · rw [List.map_append]; rfl
theorem pl_whole_choices (Z : Tx K mg a) : ∀ ts h Q E, ts.length = 2 → C_whole_choices a ts h Q E → B_whole_choices K a (ends Q E) (startT N_whole_choices.length ts) h := by
  rintro ts h Q E - ⟨x, f, r, t, b, B, rfl, hx, o, b3, q⟩
  unfold B_whole_choices
  have f1 := o.f1
  have s1 := GB.step_pos o
  refine seq_gen fun N kN => ?_
  dsimp! [eDNew]
  intro p np
  refine kN _ _ ?_
  clear kN N
  have hb : ∀ o, Bk a (put h p o) x f r t b := fun o => hx.put np
  have hi : ∀ o, insOf (put h p o) x = some (a.c_Book, bkF f r t b) := hb
  refine seq_gen fun N kN => ?_
  have key : ∀ cs, WInv f (GB.step f r t b) B 0 cs → N [some x, some (.int B), some (.ref p), none, none, none] (put h p (.dK (cs.map chT))) := by
    intro cs0 w0
    refine kN _ _ ?_
    clear kN N
    refine seq_gen fun N kN => ?_
    dsimp! [hi, C_Book_first]
    refine ⟨x, f, r, t, b, rfl, hb _, ?_⟩
    dsimp! [hi, C_Book_first]
    refine forK_go (fun i s h' => ∃ cs x3 x4 x5, WInv f (GB.step f r t b) B i cs ∧ s = [some x, some (.int B), some (.ref p), x3, x4, x5] ∧ h' = put h p (.dK (cs.map chT))) ⟨cs0, none, none, none, w0, rfl, rfl⟩ ?_ ?_
    · rintro s h' ⟨cs, x3, x4, x5, w, rfl, rfl⟩
      rw [rng_len] at w
      refine ⟨trivial, kN _ _ ?_⟩
      dsimp! [ends]
      exact dn_self (q cs (w.csok f1 s1) (fun c hc => (w.ok c hc).1) p np)
    · rintro i z s h' ei ⟨cs, x3, x4, x5, w, rfl, rfl⟩
      clear kN
      obtain ⟨hi2, rfl⟩ := rng_at ei
      refine ⟨trivial, gN_go ?_⟩
      refine seq_gen fun N kN => ?_
      dsimp! [hi, lk_step, C_Book_step]
      refine ⟨x, f, r, t, b, _, rfl, hb _, o, .inl ⟨_, rfl, by omega, ?_, kN _ _ ?_⟩⟩
      · exact Int.le_trans (show f + (i : Int) ≤ 1000 by omega) (by decide)
      clear kN N
      refine seq_gen fun N kN => ?_
      dsimp! [ends]
      refine kN _ _ ?_
      clear kN N
      have hl : cs.length < 1000000 := by have := w.len; omega
      generalize eS : GB.step f r t b (f + (i : Int)) = S
      have S1 : 1 ≤ S := by rw [← eS]; exact s1 _
      have nxt : ∀ cs', WInv f (GB.step f r t b) B i cs' → cs'.length ≤ cs.length → (f + i + S ≤ B → ∃ i' g, GR.lookC cs' (f + i + S) = some (i', g) ∧ S - 1 ≤ i') → WInv f (GB.step f r t b) B (i + 1) cs' := fun cs' w' l' hn => ⟨w'.ok, w'.one, fun j hj hB => by
        by_cases c : j = i
        · subst c
          rw [eS] at hB ⊢
          exact hn hB
        · exact w'.all j (by omega) hB, by have := w.len; omega⟩
      have put1 : f + i + S ≤ B → (∀ i' g', GR.lookC cs (f + i + S) = some (i', g') → i' ≤ S - 1) → WInv f (GB.step f r t b) B (i + 1) (GR.putC cs (f + i + S) (S - 1) (.lst [.int (f + i), .int 1])) := fun hB le => by
        refine ⟨fun c hc => ?_, fun hB' => look_keep le (w.one hB'), fun j hj hB' => ?_, ?_⟩
        · rcases GR.mem_putC hc with e | hc
          · rw [e]
            exact ⟨.inr ⟨f + i, by omega, by rw [eS], by rw [eS], rfl⟩, hB⟩
          · exact w.ok c hc
        · by_cases c : j = i
          · subst c
            rw [eS] at hB' ⊢
            rw [GR.look_put, if_pos rfl]
            exact ⟨_, _, rfl, Int.le_refl _⟩
          · exact look_keep le (w.all j (by omega) hB')
        · have := putC_len cs (f + i + S) (S - 1) (.lst [.int (f + i), .int 1])
          have := w.len
          omega
      by_cases c1 : f + i + S ≤ B
      · dsimp! [c1, dOf, valT_ch]
        cases e : GR.lookC cs (f + i + S) with
        | none =>
          dsimp! [hl, Option.map_none, Bool.xor_false, putD_ch]
          exact ⟨_, _, _, _, put1 c1 (fun i' g' z => by rw [e] at z; cases z), rfl, rfl⟩
        | some q1 =>
          obtain ⟨i1, g1⟩ := q1
          dsimp! [hl, Option.map_some, Bool.xor_false, putD_ch, Bool.xor_self]
          by_cases c2 : i1 < S - 1
          · dsimp! [c2, hl, putD_ch]
            exact ⟨_, _, _, _, put1 c1 (fun i' g' z => by rw [e] at z; cases z; omega), rfl, rfl⟩
          · dsimp! [c2]
            exact ⟨cs, _, _, _, nxt cs ⟨w.ok, w.one, w.all, w.len⟩ (Nat.le_refl _) (fun _ => ⟨i1, g1, e, by omega⟩), rfl, rfl⟩
      · dsimp! [c1]
        exact ⟨cs, _, _, _, nxt cs ⟨w.ok, w.one, w.all, w.len⟩ (Nat.le_refl _) (fun z => absurd z c1), rfl, rfl⟩
  dsimp! [hi, C_Book_first]
  refine ⟨x, f, r, t, b, rfl, hb _, ?_⟩
  by_cases c0 : f ≤ B
  · dsimp! [c0, hi]
    refine ⟨x, f, r, t, b, rfl, hb _, ?_⟩
    dsimp! [hi]
    refine ⟨x, f, r, t, b, rfl, hb _, ?_⟩
    dsimp! [hi]
    have := key [(f, f - 1, .lst [.int 1])] ⟨fun c hc => by
      have e : c = (f, f - 1, .lst [.int 1]) := by simpa using hc
      rw [e]
      exact ⟨.inl ⟨rfl, rfl, rfl⟩, c0⟩, fun _ => ⟨f - 1, .lst [.int 1], by simp [GR.lookC], Int.le_refl _⟩, fun j hj => absurd hj (Nat.not_lt_zero _), by simp⟩
    exact this
  · dsimp! [c0]
    exact key [] ⟨(fun c hc => by cases hc), fun z => absurd z c0, fun j hj => absurd hj (Nat.not_lt_zero _), by simp⟩
theorem cell_iff {P P' : Int → Prop} {R : Int → T → T → Prop} {c : T} (hc : cellOk P R c) (e : ∀ v, P' v ↔ P v) : cellOk P' R c := by
  rcases hc with ⟨h1, h2⟩ | ⟨v, tt, g, h1, h2, h3, h4⟩
  · exact .inl ⟨h1, fun v z => h2 v ((e v).mp z)⟩
  · exact .inr ⟨v, tt, g, h1, (e v).mpr h2, fun v' z => h3 v' ((e v').mp z), h4⟩
theorem row_mem {cs : List (Int × Int × T)} {B n : Nat} {row : List T} (r : RowOk cs B n row) {c : T} (hc : c ∈ row) : c = .non ∨ ∃ v tt g, c = .tup [.int v, tt, g] := by
  obtain ⟨x, hx, e⟩ := List.mem_iff_getElem.mp hc
  obtain ⟨c', e', k⟩ := r.2 x (by rw [r.1] at hx; omega)
  rw [List.getElem?_eq_getElem hx, e] at e'
  cases e'
  rcases k with ⟨h1, _⟩ | ⟨v, tt, g, h1, _⟩
  · exact .inl h1
  · exact .inr ⟨v, tt, g, h1⟩
def again : T → T
  | .tup (v :: _) => .tup [v, .int 0, .non]
  | _ => .non
theorem row_zero (cs : List (Int × Int × T)) (B : Nat) : RowOk cs B 0 ((List.replicate (B + 1) T.non).set 0 (.tup [.int 0, .non, .non])) := by
  refine ⟨by simp, fun x hx => ?_⟩
  cases x with
  | zero =>
    refine ⟨.tup [.int 0, .non, .non], by simp, .inr ⟨0, .non, .non, rfl, ⟨[], .nil⟩, ?_, trivial⟩⟩
    rintro v' ⟨rs, p⟩
    cases p
    exact Int.le_refl _
  | succ x =>
    refine ⟨.non, by rw [List.getElem?_set_ne (by omega), List.getElem?_replicate, if_pos (by omega)], .inl ⟨rfl, ?_⟩⟩
    rintro v ⟨rs, p⟩
    generalize e : ((x + 1 : Nat) : Int) = y at p
    cases p
    omega
theorem row_again {cs : List (Int × Int × T)} {B n : Nat} {row : List T} (r : RowOk cs B n row) : (row.map again).length = B + 1 ∧ ∀ x : Nat, x ≤ B → ∃ c, (row.map again)[x]? = some c ∧ cellOk (GR.PP cs [] n x) (backR cs (n + 1) x) c := by
  refine ⟨by rw [List.length_map, r.1], fun x hx => ?_⟩
  obtain ⟨c, e, k⟩ := r.2 x hx
  refine ⟨again c, by rw [List.getElem?_map, e]; rfl, ?_⟩
  have pe : ∀ v, GR.PP cs [] n x v ↔ ∃ rs, GR.Pth cs n x v rs := fun v => ⟨fun z => z.elim id fun ⟨_, _, _, m, _⟩ => absurd m List.not_mem_nil, .inl⟩
  rcases k with ⟨rfl, h2⟩ | ⟨v, tt, g, rfl, h2, h3, _⟩
  · exact .inl ⟨rfl, fun v z => h2 v ((pe v).mp z)⟩
  · exact .inr ⟨v, .int 0, .non, rfl, (pe v).mpr h2, fun v' z => h3 v' ((pe v').mp z), .inl ⟨rfl, rfl, h2, fun v' rs' p => h3 v' ⟨rs', p⟩⟩⟩
theorem last_of {α : Type} {l : List α} {n : Nat} (h : l.length = n + 1) : ∃ l' x, l = l' ++ [x] ∧ l[n]? = some x := by
  have hn : l ≠ [] := fun z => by rw [z] at h; cases h
  refine ⟨l.dropLast, l.getLast hn, (List.dropLast_concat_getLast hn).symm, ?_⟩
  rw [List.getLast_eq_getElem]
  rw [List.getElem?_eq_getElem (by omega)]
  congr 1
  congr 1
  omega
def mixP (cs : List (Int × Int × T)) (j n : Nat) (t i : Int) (k : Nat) (x : Nat) (v : Int) : Prop := GR.PP cs (cs.take j) n x v ∨ ((x : Int) - t < k ∧ ∃ rs, GR.Pth cs n (x - t) (v - i) rs)
theorem pl_layers : ∀ ts h Q E, ts.length = 3 → C_layers ts h Q E → B_layers (ends Q E) (startT N_layers.length ts) h := by
  rintro ts h Q E - ⟨d, B, F, cs, rfl, hd, hcs, b3, f8, q⟩
  unfold B_layers
  refine seq_gen fun N kN => ?_
  have bt : ((B : Int) + 1).toNat = B + 1 := by omega
  have k0 : (0 : Int) ≤ (B : Int) + 1 := by omega
  have k1 : (B : Int) + 1 ≤ 1000000 := by omega
  have k2 : 1 * (B + 1) ≤ 1000000 := by omega
  have e0 : ([T.non] :: List.replicate B [T.non]).flatten = List.replicate (B + 1) T.non := by rw [← List.replicate_succ, List.flatten_replicate_singleton]
  obtain ⟨row0, er⟩ : ∃ r : List T, r = List.replicate (B + 1) T.non := ⟨_, rfl⟩
  dsimp! [bt, k0, k1, k2]
  rw [e0, ← er]
  have er0 : row0.length = B + 1 := by rw [er, List.length_replicate]
  intro q0 nq0 p np
  refine kN _ _ ?_
  clear kN N
  refine seq_gen fun N kN => ?_
  obtain ⟨pq0, np⟩ := put_none np
  have h1 : put (put h q0 (.lst row0)) p (.lst [.ref q0]) q0 = some (.lst row0) := by rw [put_ne (fun z => pq0 z.symm), put_same]
  dsimp! [h1, er0, ixN_0]
  refine kN _ _ ?_
  clear kN N
  refine seq_gen fun N kN => ?_
  have f0 : (-1000000 : Int) ≤ F := by omega
  have f1 : (F : Int) ≤ 1000000 := by omega
  dsimp! [f0, f1, Int.toNat_natCast]
  refine forK_go (fun i s h' => ∃ qs x4 x5 x6 x7 x8 x9 x10 x11 x12 x13, Sub h h' ∧ h' p = some (.lst (qs.map .ref)) ∧ p ∉ qs ∧ Lay cs B i h' qs ∧ s = [some (.ref d), some (.int B), some (.int F), some (.ref p), x4, x5, x6, x7, x8, x9, x10, x11, x12, x13]) ?_ ?_ ?_
  · refine ⟨[q0], none, none, none, none, none, none, none, none, none, none, ?_, ?_, by simp [pq0], ⟨rfl, ?_⟩, rfl⟩
    · intro a o e
      rw [put_ne (fun z => by rw [z, nq0] at e; cases e), put_ne (fun z => by rw [z, np] at e; cases e), put_ne (fun z => by rw [z, nq0] at e; cases e)]
      exact e
    · rw [put_ne pq0, put_same]; rfl
    · intro i q' e
      cases i with
      | zero =>
        cases e
        exact ⟨_, put_same, by rw [er]; exact row_zero cs B⟩
      | succ i => simp at e
  · rintro s h' ⟨qs, x4, x5, x6, x7, x8, x9, x10, x11, x12, x13, sub, hp, pn, lay, rfl⟩
    rw [rng_len] at lay
    refine ⟨trivial, kN _ _ ?_⟩
    dsimp! [ends]
    exact dn_self (q _ _ _ sub np hp pn lay)
  · rintro i z s h' ei ⟨qs, x4, x5, x6, x7, x8, x9, x10, x11, x12, x13, sub, hp, pn, ⟨lq, lay⟩, rfl⟩
    clear kN
    obtain ⟨hi, rfl⟩ := rng_at ei
    have hd' := sub d _ hd
    refine ⟨trivial, gN_go ?_⟩
    refine seq_gen fun N kN => ?_
    obtain ⟨qs', q1, eqs, eq1⟩ := last_of lq
    obtain ⟨row, hq1, rok⟩ := lay i q1 eq1
    have em : atI (qs.map T.ref) (-1) = some (.ref q1) := by rw [eqs, List.map_append]; exact atI_m1
    dsimp! [hp, em]
    refine kN _ _ ?_
    clear kN N
    refine seq_gen fun N kN => ?_
    dsimp! [hq1]
    refine lcK_map again hq1 (by rw [rok.1]; omega) (fun c hc R r => ?_) ?_
    · rcases row_mem rok hc with rfl | ⟨v, tt, g, rfl⟩
      · dsimp! [again]; exact r
      · dsimp! [again]; exact r
    rw [mk_false]
    intro q2 nq2
    refine kN _ _ ?_
    clear kN N
    have dq2 : d ≠ q2 := ne_fresh hd' nq2
    have pq2 : p ≠ q2 := ne_fresh hp nq2
    have q12 : q1 ≠ q2 := ne_fresh hq1 nq2
    have pd : p ≠ d := fun z => by rw [z, hd'] at hp; cases hp
    have q1d : q1 ≠ d := fun z => by rw [z, hd'] at hq1; cases hq1
    refine seq_gen fun N kN => ?_
    unfold sLk
    refine ⟨d, cs.map chT, by rw [put_ne dq2]; exact hd', fun u => ?_⟩
    dsimp! [ends]
    refine forK_go (fun j s hh => ∃ ly x8 x9 x10 x11 x12 x13, hh d = some (.dL u (cs.map chT)) ∧ hh q2 = some (.lst ly) ∧ (∀ a, a ≠ q2 → a ≠ d → hh a = h' a) ∧ (ly.length = B + 1 ∧ ∀ x : Nat, x ≤ B → ∃ c, ly[x]? = some c ∧ cellOk (GR.PP cs (cs.take j) i x) (backR cs (i + 1) x) c) ∧ s = [some (.ref d), some (.int B), some (.int F), some (.ref p), some (.int (0 + i)), some (.ref q1), some (.ref q2), x7, x8, x9, x10, x11, x12, x13]) ?_ ?_ ?_
    · refine ⟨row.map again, x8, x9, x10, x11, x12, x13, put_same, by rw [put_ne (fun z => dq2 z.symm), put_same], fun a n1 n2 => by rw [put_ne n2, put_ne n1], ?_, rfl⟩
      rw [List.take_zero]
      exact row_again rok
    · rintro s hh ⟨ly, x8, x9, x10, x11, x12, x13, e1, e2, e3, ⟨e4, e5⟩, rfl⟩
      refine ⟨e1, e1, kN _ _ ?_⟩
      have lt : (itemsT (cs.map chT)).length = cs.length := by unfold itemsT; simp
      rw [lt, List.take_length] at e5
      clear kN N
      have hp3 : put hh d (.dK (cs.map chT)) p = some (.lst (qs.map .ref)) := by rw [put_ne pd, e3 p pq2 pd]; exact hp
      have ql : (qs.map T.ref).length < 1000000 := by rw [List.length_map, lq]; omega
      have ql' : qs.length < 1000000 := by rw [lq]; omega
      dsimp! [hp3, ql, ql']
      refine ⟨qs ++ [q2], _, _, _, _, _, _, _, _, _, _, ?_, by rw [List.map_append]; rfl, ?_, ⟨by rw [List.length_append, lq]; rfl, ?_⟩, rfl⟩
      · intro a o e
        have ea := sub a o e
        rw [put_ne (fun z => by rw [z, np] at e; cases e)]
        by_cases c : a = d
        · subst c; rw [put_same]; rw [hd'] at ea; exact ea
        · rw [put_ne c, e3 a (fun z => by rw [z, nq2] at ea; cases ea) c]; exact ea
      · rw [List.mem_append]
        rintro (z | z)
        · exact pn z
        · exact pq2 (by simpa using z)
      · intro k q' e
        by_cases c : k < i + 1
        · rw [List.getElem?_append_left (by omega)] at e
          obtain ⟨row', a1, a2⟩ := lay k q' e
          refine ⟨row', ?_, a2⟩
          have n1 : q' ≠ p := fun z => pn (z ▸ List.mem_of_getElem? e)
          have n2 : q' ≠ d := fun z => by rw [z, hd'] at a1; cases a1
          have n3 : q' ≠ q2 := ne_fresh a1 nq2
          rw [put_ne n1, put_ne n2, e3 q' n3 n2]
          exact a1
        · have hk : k = i + 1 := by
            have := (List.getElem?_eq_some_iff.mp e).1
            rw [List.length_append, lq] at this
            simp at this
            omega
          subst hk
          rw [List.getElem?_append_right (by omega), lq, Nat.sub_self] at e
          cases e
          refine ⟨ly, by rw [put_ne (fun z => pq2 z.symm), put_ne (fun z => dq2 z.symm)]; exact e2, e4, fun x hx => ?_⟩
          obtain ⟨c, a1, a2⟩ := e5 x hx
          exact ⟨c, a1, cell_iff a2 fun v => GR.pp_all.symm⟩
    · rintro j z s hh ej ⟨ly, x8, x9, x10, x11, x12, x13, e1, e2, e3, ⟨e4, e5⟩, rfl⟩
      refine ⟨e1, ?_⟩
      unfold itemsT at ej
      rw [List.map_map, List.getElem?_map] at ej
      cases ec : cs[j]? with
      | none => rw [ec] at ej; cases ej
      | some c =>
        obtain ⟨t, i0, g⟩ := c
        rw [ec] at ej
        cases ej
        have mc : (t, i0, g) ∈ cs := List.mem_of_getElem? ec
        obtain ⟨t1, t2, _, _⟩ := hcs _ mc
        dsimp only at t1 t2
        have r0 : (-1000000 : Int) ≤ (B : Int) - t + 1 := by omega
        have r1 : (B : Int) - t + 1 ≤ 1000000 := by omega
        clear kN
        dsimp! [Function.comp, chT, kT, r0, r1]
        refine forK_go (fun k s hh => ∃ ly x11 x12 x13, hh d = some (.dL u (cs.map chT)) ∧ hh q2 = some (.lst ly) ∧ (∀ a, a ≠ q2 → a ≠ d → hh a = h' a) ∧ (ly.length = B + 1 ∧ ∀ x : Nat, x ≤ B → ∃ c, ly[x]? = some c ∧ cellOk (mixP cs j i t i0 k x) (backR cs (i + 1) x) c) ∧ s = [some (.ref d), some (.int B), some (.int F), some (.ref p), some (.int (0 + i)), some (.ref q1), some (.ref q2), x7, some (.int t), some (.int i0), some g, x11, x12, x13]) ?_ ?_ ?_
        · refine ⟨ly, x11, x12, x13, e1, e2, e3, ⟨e4, fun x hx => ?_⟩, rfl⟩
          obtain ⟨c, a1, a2⟩ := e5 x hx
          refine ⟨c, a1, cell_iff a2 fun v => ⟨fun z => z.elim id fun ⟨z1, rs, z2⟩ => ?_, .inl⟩⟩
          have := (GR.path_pos (fun c hc => by have := hcs c hc; omega) z2).1
          omega
        · rintro s hh ⟨ly, x11, x12, x13, e1, e2, e3, ⟨e4, e5⟩, rfl⟩
          rw [rng_len] at e5
          refine ⟨trivial, ly, _, _, _, _, _, _, e1, e2, e3, ⟨e4, fun x hx => ?_⟩, rfl⟩
          obtain ⟨c, a1, a2⟩ := e5 x hx
          have tk : cs.take (j + 1) = cs.take j ++ [(t, i0, g)] := by rw [List.take_add_one, ec]; rfl
          rw [tk]
          refine ⟨c, a1, cell_iff a2 fun v => ?_⟩
          rw [GR.pp_snoc]
          exact ⟨fun z => z.elim .inl fun z => .inr ⟨by omega, z⟩, fun z => z.elim .inl fun z => .inr z.2⟩
        · rintro k z s hh ek ⟨ly, x11, x12, x13, e1, e2, e3, ⟨e4, e5⟩, rfl⟩
          obtain ⟨hk, rfl⟩ := rng_at ek
          refine ⟨trivial, gN_go ?_⟩
          refine seq_gen fun N kN => ?_
          have kB : k ≤ B := by omega
          obtain ⟨ah, b1, b2⟩ := rok.2 k kB
          have hq1' : hh q1 = some (.lst row) := by rw [e3 q1 q12 q1d]; exact hq1
          have at1 : atI row (0 + (k : Int)) = some ah := by rw [Int.zero_add]; exact atI_nat' b1
          dsimp! [hq1', at1]
          refine kN _ _ ?_
          clear kN N
          have tn : t.toNat = t := by omega
          have x0B : k + t.toNat ≤ B := by omega
          obtain ⟨hr, c1, c2⟩ := e5 (k + t.toNat) x0B
          have at2 : atI ly (0 + (k : Int) + t) = some hr := by
            rw [show (0 : Int) + (k : Int) + t = ((k + t.toNat : Nat) : Int) by omega]
            exact atI_nat' c1
          have ix2 : ixN ly.length (0 + (k : Int) + t) = some (k + t.toNat) := by
            rw [show (0 : Int) + (k : Int) + t = ((k + t.toNat : Nat) : Int) by omega]
            exact ixN_nat (by omega)
          have ix3 : ixN (B + 1) (0 + (k : Int) + t) = some (k + t.toNat) := by rw [← e4]; exact ix2
          rcases b2 with ⟨rfl, no⟩ | ⟨av, att, ag, rfl, aP, aM, _⟩
          · refine seq_gen fun N kN => ?_
            dsimp! [ends]
            refine ⟨ly, _, _, _, e1, e2, e3, ⟨e4, fun x hx => ?_⟩, rfl⟩
            obtain ⟨c, a1, a2⟩ := e5 x hx
            refine ⟨c, a1, cell_iff a2 fun v => ⟨fun z => z.elim .inl fun ⟨z1, rs, z2⟩ => ?_, fun z => z.elim .inl fun ⟨z1, z2⟩ => .inr ⟨by omega, z2⟩⟩⟩
            by_cases w : (x : Int) - t = k
            · rw [w] at z2; exact absurd ⟨rs, z2⟩ (no _)
            · exact .inr ⟨by omega, rs, z2⟩
          · refine seq_gen fun N kN => ?_
            dsimp! [ends]
            refine kN _ _ ?_
            clear kN N
            refine seq_gen fun N kN => ?_
            dsimp! [e2, at2]
            refine kN _ _ ?_
            clear kN N
            have xk : ((k + t.toNat : Nat) : Int) - t = k := by omega
            have hbest : GR.Best cs i (((k + t.toNat : Nat) : Int) - t) (av + i0 - i0) := by
              rw [xk, show av + i0 - i0 = av by omega]
              exact ⟨aP, fun v' rs' z => aM v' ⟨rs', z⟩⟩
            have setOk : (∀ v, mixP cs j i t i0 k (k + t.toNat) v → v ≤ av + i0) → ∀ x : Nat, x ≤ B → ∃ c, (ly.set (k + t.toNat) (.tup [.int (av + i0), .int t, g]))[x]? = some c ∧ cellOk (mixP cs j i t i0 (k + 1) x) (backR cs (i + 1) x) c := by
              intro hm x hx
              by_cases w : x = k + t.toNat
              · subst w
                refine ⟨_, List.getElem?_set_self (by omega), .inr ⟨av + i0, .int t, g, rfl, .inr ⟨by omega, ?_⟩, ?_, .inr ⟨t, i0, rfl, mc, hbest⟩⟩⟩
                · obtain ⟨rs, z⟩ := aP
                  exact ⟨rs, by rw [xk, show av + i0 - i0 = av by omega]; exact z⟩
                · rintro v' (z | ⟨_, rs, z⟩)
                  · exact hm v' (.inl z)
                  · rw [xk] at z
                    have := aM _ ⟨rs, z⟩
                    omega
              · rw [List.getElem?_set_ne (fun z => w z.symm)]
                obtain ⟨c, a1, a2⟩ := e5 x hx
                refine ⟨c, a1, cell_iff a2 fun v => ⟨fun z => z.elim .inl fun ⟨z1, z2⟩ => .inr ⟨by omega, z2⟩, fun z => z.elim .inl fun ⟨z1, z2⟩ => .inr ⟨by omega, z2⟩⟩⟩
            rcases c2 with ⟨rfl, no⟩ | ⟨hv, htt, hg, rfl, hP, hM, hR⟩
            · dsimp! [e2, ix2, ix3, e4]
              exact ⟨_, _, _, _, by rw [put_ne dq2]; exact e1, rfl, fun a n1 n2 => by rw [put_ne n1]; exact e3 a n1 n2, ⟨by rw [List.length_set]; exact e4, setOk fun v z => absurd z (no v)⟩, rfl⟩
            · by_cases w : hv < av + i0
              · dsimp! [w, e2, ix2, ix3, e4]
                exact ⟨_, _, _, _, by rw [put_ne dq2]; exact e1, rfl, fun a n1 n2 => by rw [put_ne n1]; exact e3 a n1 n2, ⟨by rw [List.length_set]; exact e4, setOk fun v z => by have := hM v z; omega⟩, rfl⟩
              · dsimp! [w]
                refine ⟨ly, _, _, _, e1, e2, e3, ⟨e4, fun x hx => ?_⟩, rfl⟩
                obtain ⟨c, a1, a2⟩ := e5 x hx
                by_cases w2 : x = k + t.toNat
                · subst w2
                  rw [c1] at a1
                  cases a1
                  refine ⟨_, c1, .inr ⟨hv, htt, hg, rfl, ?_, ?_, hR⟩⟩
                  · exact hP.elim .inl fun ⟨z1, z2⟩ => .inr ⟨by omega, z2⟩
                  · rintro v' (z | ⟨_, rs, z⟩)
                    · exact hM v' (.inl z)
                    · rw [xk] at z
                      have := aM _ ⟨rs, z⟩
                      omega
                · exact ⟨c, a1, cell_iff a2 fun v => ⟨fun z => z.elim .inl fun ⟨z1, z2⟩ => .inr ⟨by omega, z2⟩, fun z => z.elim .inl fun ⟨z1, z2⟩ => .inr ⟨by omega, z2⟩⟩⟩
theorem pl_growths_at : ∀ ts h Q E, ts.length = 3 → C_growths_at ts h Q E → B_growths_at (ends Q E) (startT N_growths_at.length ts) h := by
  rintro ts h Q E - ⟨qs, cs, B, F, n, x, v, rfl, ⟨lq, lay⟩, nF, f8, xB, b3, hcs, hb, q⟩
  unfold B_growths_at
  refine seq_gen fun N kN => ?_
  dsimp! [ends]
  intro p np
  refine kN _ _ ?_
  clear kN N
  refine seq_gen fun N kN => ?_
  dsimp! [sWhile]
  refine ⟨fun w s h' => ∃ (m y : Nat) (u : Int) (dl : List T) (x4 x5 x6 : Option T), w = m ∧ m ≤ n ∧ y ≤ B ∧ GR.Best cs m y u ∧ (∀ rs, GR.Pth cs m y u rs → GR.Pth cs n x v (dl ++ rs)) ∧ dl.length + m ≤ n ∧ s = [some (.lst (qs.map .ref)), some (.int m), some (.int y), some (.ref p), x4, x5, x6] ∧ h' = put h p (.lst dl), ⟨n, n, x, v, [], none, none, none, rfl, Nat.le_refl _, xB, hb, fun rs z => z, by simp, rfl, rfl⟩, ?_⟩
  rintro w s h' ⟨_, y, u, dl, x4, x5, x6, rfl, mn, yB, bst, ext, ln, rfl, rfl⟩
  cases w with
  | zero =>
    have c : ¬ (0 : Int) < ((0 : Nat) : Int) := by decide
    dsimp! [c]
    refine kN _ _ ?_
    dsimp! [ends]
    obtain ⟨⟨rs, z⟩, _⟩ := bst
    generalize e : (y : Int) = y' at z
    cases z
    have z := ext [] (by rw [e]; exact .nil)
    rw [List.append_nil] at z
    exact dn_self (q p _ np z)
  | succ m =>
    have c : (0 : Int) < ((m + 1 : Nat) : Int) := by omega
    have hq : m + 1 < qs.length := by omega
    obtain ⟨row, hr, rok⟩ := lay (m + 1) _ (List.getElem?_eq_getElem hq)
    have a1 : atI (qs.map T.ref) ((m + 1 : Nat) : Int) = some (.ref qs[m + 1]) := atI_map (List.getElem?_eq_getElem hq)
    have hr' : put h p (.lst dl) qs[m + 1] = some (.lst row) := by rw [put_ne (ne_fresh hr np)]; exact hr
    obtain ⟨cc, ec, k⟩ := rok.2 y yB
    have a2 : atI row (y : Int) = some cc := atI_nat' ec
    rcases k with ⟨rfl, no⟩ | ⟨v', tt, g, rfl, hP, hM, hR⟩
    · exact absurd bst.1 (no u)
    · have ev : v' = u := (show GR.Best cs (m + 1) y v' from ⟨hP, fun v2 rs2 z => hM v2 ⟨rs2, z⟩⟩).uniq bst
      subst ev
      have ln1 : dl.length < 1000000 := by omega
      rcases hR with ⟨rfl, rfl, hB⟩ | ⟨t, i, rfl, mc, hB⟩
      · dsimp! [c, a1, hr', a2]
        refine ⟨m, by omega, m, y, v', dl, some (.int v'), some (.int 0), some .non, rfl, by omega, yB, hB, fun rs z => ext rs (.skip z), by omega, ?_, rfl⟩
        rw [show ((m + 1 : Nat) : Int) - 1 = m by omega, show (y : Int) - 0 = y by omega]
      · have ng := (hcs _ mc).2
        have t0 := (hcs _ mc).1
        dsimp only at ng t0
        have y0 : 0 ≤ (y : Int) - t := by
          obtain ⟨⟨rs, z⟩, _⟩ := hB
          exact GR.path_x (fun c hc => by have := (hcs c hc).1; omega) z
        have st : ∀ x4 x5 x6, ∃ n', n' < m + 1 ∧ ∃ (m' y' : Nat) (u : Int) (dl' : List T) (z4 z5 z6 : Option T), n' = m' ∧ m' ≤ n ∧ y' ≤ B ∧ GR.Best cs m' y' u ∧ (∀ rs, GR.Pth cs m' y' u rs → GR.Pth cs n x v (dl' ++ rs)) ∧ dl'.length + m' ≤ n ∧ [some (T.lst (qs.map .ref)), some (T.int (((m + 1 : Nat) : Int) - 1)), some (.int ((y : Int) - t)), some (.ref p), x4, x5, x6] = [some (.lst (qs.map .ref)), some (.int m'), some (.int y'), some (.ref p), z4, z5, z6] ∧ put h p (.lst (dl ++ [g])) = put h p (.lst dl') := by
          intro x4 x5 x6
          have ey : (((y : Int) - t).toNat : Int) = (y : Int) - t := by omega
          refine ⟨m, by omega, m, ((y : Int) - t).toNat, v' - i, dl ++ [g], x4, x5, x6, rfl, by omega, by omega, by rw [ey]; exact hB, fun rs z => ?_, by simp; omega, ?_, rfl⟩
          · rw [ey] at z
            rw [List.append_assoc]
            have z2 := GR.Pth.take mc z
            rw [show (y : Int) - t + t = y by omega, show v' - i + i = v' by omega] at z2
            exact ext _ z2
          · rw [show ((m + 1 : Nat) : Int) - 1 = m by omega, ey]
        have isN : ∀ (h : Hq) (Q : TK), oNotN g .non h Q ↔ Q (.bl true) h := by
          intro h Q
          cases g <;> first | exact absurd rfl ng | exact Iff.rfl
        dsimp! [c, a1, hr', a2]
        cases g <;> first | exact absurd rfl ng | (dsimp! [ln1]; exact st _ _ _)
def ShAt (f : Int) (st : Int → Int) (B : Int) (hold many : Int) (c : Int × Int × T) : Prop := (hold = 0 ∨ f ≤ hold) ∧ 1 ≤ many ∧ many ≤ st hold - 1 ∧ hold + many ≤ B ∧ c = (hold + many, many - 1, if hold = 0 then .lst [.int 1] else .lst [.int hold, .int 1])
theorem pl_short_choices (Z : Tx K mg a) : ∀ ts h Q E, ts.length = 2 → C_short_choices a ts h Q E → B_short_choices K a (ends Q E) (startT N_short_choices.length ts) h := by
  rintro ts h Q E - ⟨x, f, r, t, b, B, rfl, hx, o, b3, q⟩
  unfold B_short_choices
  have f1 := o.f1
  have s1 := GB.step_pos o
  refine seq_gen fun N kN => ?_
  dsimp! [ends]
  intro p np
  refine kN _ _ ?_
  clear kN N
  have hb : ∀ o, Bk a (put h p o) x f r t b := fun o => hx.put np
  have hi : ∀ o, insOf (put h p o) x = some (a.c_Book, bkF f r t b) := hb
  refine seq_gen fun N kN => ?_
  have n0 : (-1000000 : Int) ≤ B := by omega
  have n1 : (B : Int) ≤ 1000000 := by omega
  dsimp! [n0, n1, Int.toNat_natCast]
  refine forK_go (fun i s h' => ∃ (ss : List (Int × Int × T)) (x3 x4 x5 : Option T), (∀ c, c ∈ ss ↔ ∃ (hold many : Int), hold < (i : Int) ∧ ShAt f (GB.step f r t b) B hold many c) ∧ ss.length ≤ i * 300 ∧ s = [some x, some (.int B), some (.ref p), x3, x4, x5] ∧ h' = put h p (.lst (ss.map shrT))) ⟨[], none, none, none, fun c => ⟨(fun z => by cases z), fun ⟨hold, many, h0, hh, _⟩ => by
      rcases hh with hh | hh <;> omega⟩, by simp, rfl, rfl⟩ ?_ ?_
  · rintro s h' ⟨ss, x3, x4, x5, iff, ln, rfl, rfl⟩
    rw [rng_len] at iff
    refine ⟨trivial, kN _ _ ?_⟩
    dsimp! [ends]
    refine dn_self (q ss (fun c => ?_) p np)
    rw [iff]
    exact ⟨fun ⟨hold, many, _, z⟩ => ⟨hold, many, z⟩, fun ⟨hold, many, z⟩ => ⟨hold, many, by have := z.2.1; have := z.2.2.2.1; omega, z⟩⟩
  · rintro i z s h' ei ⟨ss, x3, x4, x5, iff, ln, rfl, rfl⟩
    clear kN
    obtain ⟨hi2, rfl⟩ := rng_at ei
    refine ⟨trivial, gN_go ?_⟩
    have key : (((0 : Int) + i = 0) ∨ f ≤ 0 + i) → (sSeq (sAsg (eCB oMin (aCons (eOp oSub (eCB oInt (aCons (eFrz (eMeth a.c_Book "step" 2 (C_Book_step a) (eVar 0) (aCons (eVar 3) aNil))) aNil)) (eC (.int 1))) (aCons (eOp oSub (eVar 1) (eVar 3)) aNil))) (gN 4))
        (sFor (iRange2 (aCons (eC (.int 1)) (aCons (eOp (oAdd true) (eVar 4) (eC (.int 1))) aNil))) (gN 5) (sDrop (eBM isLs oApp (eVar 2) (aCons (eTup (aCons (eOp (oAdd true) (eVar 3) (eVar 5)) (aCons (eOp oSub (eVar 5) (eC (.int 1))) (aCons (eIf (tOf (eOp oEq (eVar 3) (eC (.int 0)))) (eC (.lst [.int 1])) (eLst true (aCons (eVar 3) (aCons (eC (.int 1)) aNil)))) aNil)))) aNil)))))
        { nx := fun s h' => ∃ (ss : List (Int × Int × T)) (x3 x4 x5 : Option T), (∀ c, c ∈ ss ↔ ∃ hold many, hold < ((i + 1 : Nat) : Int) ∧ ShAt f (GB.step f r t b) B hold many c) ∧ ss.length ≤ (i + 1) * 300 ∧ s = [some x, some (.int B), some (.ref p), x3, x4, x5] ∧ h' = put h p (.lst (ss.map shrT)), rt := dn Q, bk := N, ct := fun s h' => ∃ (ss : List (Int × Int × T)) (x3 x4 x5 : Option T), (∀ c, c ∈ ss ↔ ∃ hold many, hold < ((i + 1 : Nat) : Int) ∧ ShAt f (GB.step f r t b) B hold many c) ∧ ss.length ≤ (i + 1) * 300 ∧ s = [some x, some (.int B), some (.ref p), x3, x4, x5] ∧ h' = put h p (.lst (ss.map shrT)), ex := fun x _ h => dnX E x h }
        [some x, some (.int B), some (.ref p), some (.int (0 + i)), x4, x5] (put h p (.lst (ss.map shrT))) := by
      intro hh
      refine seq_gen fun N kN => ?_
      dsimp! [hi, lk_step, C_Book_step]
      refine ⟨x, f, r, t, b, _, rfl, hb _, o, .inl ⟨_, rfl, by omega, Int.le_trans (show (0 : Int) + (i : Int) ≤ 1000 by omega) (by decide), ?_⟩⟩
      generalize eS : GB.step f r t b (0 + (i : Int)) = S
      have S1 : 1 ≤ S := by rw [← eS]; exact s1 _
      dsimp! [ends]
      refine kN _ _ ?_
      clear kN N
      generalize em : (if (B : Int) - (0 + (i : Int)) < S - 1 then (B : Int) - (0 + (i : Int)) else S - 1) = M
      have M0 : 0 ≤ M := by rw [← em]; split <;> omega
      have M1 : M ≤ 300 := by rw [← em]; split <;> omega
      have MS : M ≤ S - 1 ∧ M ≤ B - i ∧ (∀ y : Int, y ≤ S - 1 → i + y ≤ B → y ≤ M) := by
        refine ⟨?_, ?_, fun y h1 h2 => ?_⟩
        · rw [← em]; split <;> omega
        · rw [← em]; split <;> omega
        · rw [← em]; split <;> omega
      have g1 : (-(2 ^ 62) : Int) ≤ 1 ∧ (1 : Int) < 2 ^ 62 ∧ -(2 ^ 62) ≤ M + 1 ∧ M + 1 < 2 ^ 62 := by refine ⟨by decide, by decide, by omega, by omega⟩
      dsimp! [g1]
      refine forK_go (fun k s h' => ∃ (ss : List (Int × Int × T)) (x5 : Option T), (∀ c, c ∈ ss ↔ (∃ hold many, hold < (i : Int) ∧ ShAt f (GB.step f r t b) B hold many c) ∨ ∃ many, many < 1 + (k : Int) ∧ ShAt f (GB.step f r t b) B i many c) ∧ ss.length ≤ i * 300 + k ∧ s = [some x, some (.int B), some (.ref p), some (.int (0 + i)), some (.int M), x5] ∧ h' = put h p (.lst (ss.map shrT))) ⟨ss, x5, fun c => (iff c).trans ⟨.inl, fun z => z.elim id fun ⟨many, m1, z⟩ => by have := z.2.1; omega⟩, by omega, rfl, rfl⟩ ?_ ?_
      · rintro s h' ⟨ss, x5, iff, ln, rfl, rfl⟩
        rw [rng_len] at iff ln
        refine ⟨trivial, ss, _, _, _, fun c => ?_, by omega, rfl, rfl⟩
        rw [iff]
        constructor
        · rintro (⟨hold, many, h1, z⟩ | ⟨many, m1, z⟩)
          · exact ⟨hold, many, by omega, z⟩
          · exact ⟨i, many, by omega, z⟩
        · rintro ⟨hold, many, h1, z⟩
          by_cases c : hold = i
          · subst c
            refine .inr ⟨many, ?_, z⟩
            have z1 := z.2.2.1
            have z2 := z.2.2.2.1
            rw [show ((i : Nat) : Int) = 0 + (i : Int) by omega, eS] at z1
            have := MS.2.2 many z1 z2
            omega
          · exact .inl ⟨hold, many, by omega, z⟩
      · rintro k z s h' ek ⟨ss, x5, iff, ln, rfl, rfl⟩
        obtain ⟨hk, rfl⟩ := rng_at ek
        refine ⟨trivial, gN_go ?_⟩
        have ln1 : ss.length < 1000000 := by omega
        have step : ∀ g : T, g = (if ((i : Nat) : Int) = 0 then T.lst [.int 1] else .lst [.int (i : Nat), .int 1]) → ∀ c, c ∈ ss ++ [((0 : Int) + i + (1 + k), (1 : Int) + k - 1, g)] ↔ (∃ hold many, hold < (i : Int) ∧ ShAt f (GB.step f r t b) B hold many c) ∨ ∃ many, many < 1 + ((k + 1 : Nat) : Int) ∧ ShAt f (GB.step f r t b) B i many c := by
          intro g hg c
          rw [List.mem_append, iff]
          constructor
          · rintro ((z | ⟨many, m1, z⟩) | z)
            · exact .inl z
            · exact .inr ⟨many, by omega, z⟩
            · have e : c = (0 + (i : Int) + (1 + k), 1 + (k : Int) - 1, g) := by simpa using z
              refine .inr ⟨1 + k, by omega, ?_, by omega, ?_, by omega, ?_⟩
              · rw [Int.zero_add] at hh; exact hh
              · rw [show ((i : Nat) : Int) = 0 + (i : Int) by omega, eS]; omega
              · rw [e, hg, Int.zero_add]
          · rintro (z | ⟨many, m1, z⟩)
            · exact .inl (.inl z)
            · by_cases c1 : many = 1 + k
              · refine .inr ?_
                have := z.2.2.2.2
                rw [this, c1, hg, Int.zero_add]
                simp
              · exact .inl (.inr ⟨many, by omega, z⟩)
        have fin : ∀ g : T, g = (if ((i : Nat) : Int) = 0 then T.lst [.int 1] else .lst [.int (i : Nat), .int 1]) → ∃ (ss' : List (Int × Int × T)) (x5' : Option T), (∀ c, c ∈ ss' ↔ (∃ hold many, hold < (i : Int) ∧ ShAt f (GB.step f r t b) B hold many c) ∨ ∃ many, many < 1 + ((k + 1 : Nat) : Int) ∧ ShAt f (GB.step f r t b) B i many c) ∧ ss'.length ≤ i * 300 + (k + 1) ∧ [some x, some (T.int B), some (.ref p), some (.int (0 + i)), some (.int M), some (.int (1 + k))] = [some x, some (T.int B), some (.ref p), some (.int (0 + i)), some (.int M), x5'] ∧ put h p (.lst (ss.map shrT ++ [.tup [.int (0 + i + (1 + k)), .int (1 + k - 1), g]])) = put h p (.lst (ss'.map shrT)) := by
          intro g hg
          exact ⟨ss ++ [((0 : Int) + i + (1 + k), (1 : Int) + k - 1, g)], _, step g hg, by rw [List.length_append]; simp; omega, rfl, by rw [List.map_append]; rfl⟩
        by_cases c : (0 : Int) + (i : Int) = 0
        · dsimp! [c, ln1]
          have c' : ((i : Nat) : Int) = 0 := by omega
          have := fin (.lst [.int 1]) (by rw [if_pos c'])
          rw [c] at this
          exact this
        · dsimp! [c, ln1]
          have c' : ¬ ((i : Nat) : Int) = 0 := by omega
          exact fin (.lst [.int (0 + i), .int 1]) (by rw [if_neg c', Int.zero_add])
    refine sIf_gen fun N1 N2 k1 k2 => ?_
    by_cases c1 : (0 : Int) + (i : Int) = 0
    · have := k1 _ _ (key (.inl c1))
      dsimp! [c1]
      rw [c1] at this
      exact this
    · dsimp! [c1, hi, C_Book_first]
      refine ⟨x, f, r, t, b, rfl, hb _, ?_⟩
      by_cases c2 : f ≤ 0 + (i : Int)
      · dsimp! [c2]
        exact k1 _ _ (key (.inr c2))
      · dsimp! [c2]
        refine k2 _ _ ?_
        dsimp! [c2]
        refine ⟨ss, _, _, _, fun c => ?_, by omega, rfl, rfl⟩
        rw [iff]
        constructor
        · rintro ⟨hold, many, h1, z⟩
          exact ⟨hold, many, by omega, z⟩
        · rintro ⟨hold, many, h1, z⟩
          refine ⟨hold, many, ?_, z⟩
          by_cases c3 : hold = i
          · rcases z.1 with z1 | z1 <;> omega
          · omega
theorem Bk.sub {h h' : Hq} {x : T} {f r t b : Int} (hx : Bk a h x f r t b) (sub : Sub h h') : Bk a h' x f r t b := by
  unfold Bk insOf at *
  cases x <;> try exact hx
  rename_i q
  dsimp only at *
  cases e : h q with
  | none => rw [e] at hx; cases hx
  | some o => rw [sub q o e]; rw [e] at hx; exact hx
theorem Lay.del {cs : List (Int × Int × T)} {B F : Nat} {h : Hq} {qs : List Addr} (l : Lay cs B F h qs) {p : Addr} (n : p ∉ qs) : Lay cs B F (del h p) qs := by
  refine ⟨l.1, fun i q e => ?_⟩
  obtain ⟨row, h1, h2⟩ := l.2 i q e
  refine ⟨row, ?_, h2⟩
  unfold TL.del
  have ne : q ≠ p := fun z => n (z ▸ List.mem_of_getElem? e)
  rw [if_neg ne]
  exact h1
theorem pl_fullest (Z : Tx K mg a) : ∀ ts h Q E, ts.length = 3 → C_fullest a ts h Q E → B_fullest K a (ends Q E) (startT N_fullest.length ts) h := by
  rintro ts h Q E - ⟨x, f, r, t, b, B, F, rfl, hx, o, b3, f8, q⟩
  unfold B_fullest
  have f1 := o.f1
  have s1 := GB.step_pos o
  refine seq_gen fun N kN => ?_
  dsimp! [C_whole_choices, C_layers]
  refine ⟨x, f, r, t, b, B, rfl, hx, o, b3, fun cs csok gr p np => ?_⟩
  dsimp! [ends]
  have hcs : ∀ c ∈ cs, 1 ≤ c.1 ∧ c.1 ≤ B ∧ 0 ≤ c.2.1 ∧ c.2.1 ≤ c.1 := fun c hc => by
    have h1 := (csok.ok c hc).1.pos f1 s1
    have h2 := (csok.ok c hc).2
    omega
  have hng : ∀ c ∈ cs, 1 ≤ c.1 ∧ c.2.2 ≠ .non := fun c hc => ⟨(hcs c hc).1, fun z => by
    rcases gr c hc with ⟨_, _, e⟩ | ⟨_, _, _, _, e⟩ <;> (rw [e] at z; cases z)⟩
  refine ⟨p, B, F, cs, rfl, put_same, hcs, b3, f8, fun h' p2 qs sub np2 hp2 pn lay => ?_⟩
  dsimp! [hp2]
  refine kN _ _ ?_
  clear kN N
  have lay2 := lay.del pn
  have sub2 : Sub h (del h' p2) := fun z o e => by
    obtain ⟨n1, n2⟩ := put_none np2
    have n3 : z ≠ p := fun w => by rw [w, np] at e; cases e
    have n4 : z ≠ p2 := fun w => by rw [w, n2] at e; cases e
    unfold TL.del
    rw [if_neg n4]
    exact sub z o (by rw [put_ne n3]; exact e)
  clear lay sub hp2 np2 np
  generalize del h' p2 = hh at *
  have hx2 := hx.sub sub2
  refine seq_gen fun N kN => ?_
  dsimp! [ends]
  refine kN _ _ ?_
  clear kN N
  refine seq_gen fun N kN => ?_
  have lq := lay2.1
  have hqF : F < qs.length := by omega
  have aF : atI (qs.map T.ref) (F : Int) = some (.ref qs[F]) := atI_map (List.getElem?_eq_getElem hqF)
  obtain ⟨row, hr, rok⟩ := lay2.2 F _ (List.getElem?_eq_getElem hqF)
  dsimp! [aF, hr]
  refine forK_go (fun i s hh' => hh = hh' ∧ ∃ (v held : Int) (rs : List T) (x5 x6 : Option T), 0 ≤ held ∧ held ≤ B ∧ GR.Pth cs F held v rs ∧ (∀ y : Nat, y < i → ∀ v' rs', GR.Pth cs F y v' rs' → v' ≤ v) ∧ s = [some x, some (.int B), some (.int F), some (.lst (qs.map .ref)), some (.tup [.int v, .int held, .lst rs]), x5, x6, none, none, none, none]) ⟨rfl, 0, 0, [], none, none, by omega, by omega, GR.zero_path cs F, fun y hy => absurd hy (Nat.not_lt_zero _), rfl⟩ ?_ ?_
  · rintro s hh' ⟨rfl, v, held, rs, x5, x6, h0, h1, pth, mx, rfl⟩
    refine ⟨hr, kN _ _ ?_⟩
    clear kN N
    rw [enum_len, rok.1] at mx
    refine seq_gen fun N kN => ?_
    by_cases cF : (F : Int) = 0
    · have eF : F = 0 := by omega
      dsimp! [cF]
      refine ⟨h, sub2, q v held rs ⟨.inl ⟨held, h1, csok.wv pth⟩, fun w hw => ?_⟩ ⟨cs, fun c hc => ⟨gr c hc, (csok.ok c hc).2⟩, .inl ⟨h0, h1, pth⟩⟩⟩
      rcases hw with ⟨y, hy, wv⟩ | ⟨F', _, _, _, _, e, _⟩
      · obtain ⟨v', rs', l, p'⟩ := csok.path f1 s1 wv hy
        have y0 := (wv.pos f1 s1).1
        have := mx y.toNat (by omega) v' rs' (by rw [show ((y.toNat : Nat) : Int) = y by omega]; exact p')
        omega
      · omega
    · dsimp! [cF]
      refine kN _ _ ?_
      clear kN N
      refine seq_gen fun N kN => ?_
      dsimp! [C_short_choices]
      refine ⟨x, f, r, t, b, B, rfl, hx2, o, b3, fun ss sOk p3 np3 => ?_⟩
      dsimp! [del_put np3]
      obtain ⟨F', rfl⟩ : ∃ F', F = F' + 1 := ⟨F - 1, by omega⟩
      have hqF' : F' < qs.length := by omega
      have aF' : atI (qs.map T.ref) (((F' + 1 : Nat) : Int) - 1) = some (.ref qs[F']) := by
        rw [show ((F' + 1 : Nat) : Int) - 1 = (F' : Int) by omega]
        exact atI_map (List.getElem?_eq_getElem hqF')
      obtain ⟨row', hr', rok'⟩ := lay2.2 F' _ (List.getElem?_eq_getElem hqF')
      refine forK_go (fun j s hh' => hh = hh' ∧ ∃ (v held : Int) (rs : List T) (x7 x8 x9 x10 : Option T), FullRows f (GB.step f r t b) B (F' + 1) v held rs ∧ GR.Full f (GB.step f r t b) B (F' + 1) v ∧ (∀ y : Nat, y < B + 1 → ∀ v' rs', GR.Pth cs (F' + 1) y v' rs' → v' ≤ v) ∧ (∀ c ∈ ss.take j, ∀ w rs', GR.Pth cs F' (B - c.1) w rs' → w + c.2.1 ≤ v) ∧ s = [some x, some (.int B), some (.int ((F' + 1 : Nat) : Int)), some (.lst (qs.map .ref)), some (.tup [.int v, .int held, .lst rs]), x5, x6, x7, x8, x9, x10]) ⟨rfl, v, held, rs, none, none, none, none, ⟨cs, fun c hc => ⟨gr c hc, (csok.ok c hc).2⟩, .inl ⟨h0, h1, pth⟩⟩, .inl ⟨held, h1, csok.wv pth⟩, mx, fun c hc => by simp at hc, rfl⟩ ?_ ?_
      · rintro s hh' ⟨rfl, v, held, rs, x7, x8, x9, x10, fr, fu, mx, sx, rfl⟩
        refine ⟨trivial, kN _ _ ?_⟩
        rw [List.length_map, List.take_length] at sx
        dsimp! [ends]
        refine ⟨h, sub2, q v held rs ⟨fu, fun w hw => ?_⟩ fr⟩
        rcases hw with ⟨y, hy, wv⟩ | ⟨F2, hold, many, y, w', e, hh1, m1, m2, e2, wv, rfl⟩
        · obtain ⟨v', rs', l, p'⟩ := csok.path f1 s1 wv hy
          have y0 := (wv.pos f1 s1).1
          have := mx y.toNat (by omega) v' rs' (by rw [show ((y.toNat : Nat) : Int) = y by omega]; exact p')
          omega
        · have e3 : F' = F2 := by omega
          subst e3
          have y0 := (wv.pos f1 s1).1
          have hd0 : 0 ≤ hold := by rcases hh1 with h | h <;> omega
          obtain ⟨v', rs', l, p'⟩ := csok.path f1 s1 wv (by omega)
          have mem : ((hold + many, many - 1, if hold = 0 then T.lst [.int 1] else .lst [.int hold, .int 1]) : Int × Int × T) ∈ ss := (sOk _).mpr ⟨hold, many, hh1, m1, m2, by omega, rfl⟩
          have := sx _ mem v' rs' (by rw [show (B : Int) - (hold + many) = y by omega]; exact p')
          dsimp only at this
          omega
      · rintro j z s hh' ej ⟨rfl, v, held, rs, x7, x8, x9, x10, fr, fu, mx, sx, rfl⟩
        clear kN
        rw [List.getElem?_map] at ej
        cases ec : ss[j]? with
        | none => rw [ec] at ej; cases ej
        | some c =>
          rw [ec] at ej
          cases ej
          obtain ⟨tot, idle, g⟩ := c
          have shc := (sOk _).mp (List.mem_of_getElem? ec)
          have tk : ss.take (j + 1) = ss.take j ++ [(tot, idle, g)] := by rw [List.take_add_one, ec]; rfl
          have tB : 0 ≤ tot ∧ tot ≤ B := by
            obtain ⟨hold, many, hh1, m1, m2, m3, e⟩ := shc
            cases e
            rcases hh1 with h | h <;> omega
          refine ⟨trivial, ?_⟩
          obtain ⟨y, ey⟩ : ∃ y : Nat, (y : Int) = B - tot := ⟨((B : Int) - tot).toNat, by omega⟩
          have yB : y ≤ B := by omega
          obtain ⟨ah, b1, b2⟩ := rok'.2 y yB
          have a3 : atI row' ((B : Int) - tot) = some ah := by rw [← ey]; exact atI_nat' b1
          have keep : (∀ w rs', GR.Pth cs F' (B - tot) w rs' → w + idle ≤ v) → ∀ c ∈ ss.take (j + 1), ∀ w rs', GR.Pth cs F' (B - c.1) w rs' → w + c.2.1 ≤ v := by
            intro hk c hc
            rw [tk] at hc
            rcases List.mem_append.mp hc with hc | hc
            · exact sx c hc
            · have e : c = (tot, idle, g) := by simpa using hc
              rw [e]
              exact hk
          rcases b2 with ⟨rfl, no⟩ | ⟨av, att, ag, rfl, aP, aM, _⟩
          · dsimp! [shrT, aF', hr', a3]
            exact ⟨v, held, rs, _, _, _, _, fr, fu, mx, keep (fun w rs' z => by rw [← ey] at z; exact absurd ⟨rs', z⟩ (no w)), rfl⟩
          · by_cases cv : v < av + idle
            · dsimp! [shrT, aF', hr', a3, cv, C_growths_at]
              refine ⟨qs, cs, B, F' + 1, F', y, av, by rw [ey, show ((F' + 1 : Nat) : Int) - 1 = (F' : Int) by omega], lay2, by omega, f8, yB, b3, hng, ⟨aP, fun v' rs' z => aM v' ⟨rs', z⟩⟩, fun p4 rs4 np4 pth4 => ?_⟩
              have l4 := GR.path_len pth4
              have l5 : rs4.length ≤ 999999 := by omega
              dsimp! [del_put np4, l5]
              rw [ey] at pth4
              refine ⟨av + idle, B, rs4 ++ [g], _, _, _, _, ⟨cs, fun c hc => ⟨gr c hc, (csok.ok c hc).2⟩, .inr ⟨F', rs4, (tot, idle, g), av, rfl, shc, pth4, rfl, rfl, rfl⟩⟩, ?_, fun y' hy' v' rs' z => by have := mx y' hy' v' rs' z; omega, ?_, rfl⟩
              · obtain ⟨hold, many, hh1, m1, m2, m3, e⟩ := shc
                cases e
                exact .inr ⟨F', hold, many, _, av, rfl, hh1, m1, m2, by omega, csok.wv pth4, rfl⟩
              · intro c hc w rs' z
                rw [tk] at hc
                rcases List.mem_append.mp hc with hc | hc
                · have := sx c hc w rs' z; omega
                · have e : c = (tot, idle, g) := by simpa using hc
                  rw [e] at z ⊢
                  dsimp only at z ⊢
                  rw [← ey] at z
                  have := aM w ⟨rs', z⟩
                  omega
            · dsimp! [shrT, aF', hr', a3, cv]
              exact ⟨v, held, rs, _, _, _, _, fr, fu, mx, keep (fun w rs' z => by rw [← ey] at z; have := aM w ⟨rs', z⟩; omega), rfl⟩
  · rintro i z s hh' ei ⟨rfl, v, held, rs, x5, x6, h0, h1, pth, mx, rfl⟩
    clear kN
    obtain ⟨cc, ec, rfl⟩ := enum_at ei
    refine ⟨hr, ?_⟩
    have iB : i ≤ B := by
      have := (List.getElem?_eq_some_iff.mp ec).1
      rw [rok.1] at this
      omega
    obtain ⟨c', e', k⟩ := rok.2 i iB
    rw [ec] at e'
    cases e'
    have keep : (∀ v' rs', GR.Pth cs F i v' rs' → v' ≤ v) → ∀ y : Nat, y < i + 1 → ∀ v' rs', GR.Pth cs F y v' rs' → v' ≤ v := fun hk y hy => by
      by_cases c : y = i
      · subst c; exact hk
      · exact mx y (by omega)
    rcases k with ⟨rfl, no⟩ | ⟨hv, htt, hg, rfl, hP, hM, _⟩
    · dsimp! [ends]
      exact ⟨v, held, rs, _, _, h0, h1, pth, keep (fun v' rs' z => absurd ⟨rs', z⟩ (no v')), rfl⟩
    · by_cases cv : v < hv
      · dsimp! [cv, C_growths_at]
        refine ⟨qs, cs, B, F, F, i, hv, rfl, lay2, Nat.le_refl _, f8, iB, b3, hng, ⟨hP, fun v' rs' z => hM v' ⟨rs', z⟩⟩, fun p4 rs4 np4 pth4 => ?_⟩
        dsimp! [del_put np4]
        refine ⟨hv, i, rs4, _, _, by omega, by omega, pth4, fun y hy v' rs' z => ?_, rfl⟩
        by_cases c : y = i
        · subst c; exact hM v' ⟨rs', z⟩
        · have := mx y (by omega) v' rs' z; omega
      · dsimp! [cv]
        exact ⟨v, held, rs, _, _, h0, h1, pth, keep (fun v' rs' z => by have := hM v' ⟨rs', z⟩; omega), rfl⟩
theorem pl_least_refused (Z : Tx K mg a) : ∀ ts h Q E, ts.length = 3 → C_least_refused a ts h Q E → B_least_refused K a (ends Q E) (startT N_least_refused.length ts) h := by
  rintro ts h Q E - ⟨x, f, r, t, b, y, z, rfl, hx, o, hh⟩
  unfold B_least_refused
  dsimp! [C_check_blocks, C_fullest]
  rcases hh with ⟨B, F, rfl, b1, b2, rfl, f0, f8, q⟩ | ⟨B, rfl, b1, b2, k, hk, hi, q⟩ | ⟨k, hk, hi, q⟩
  · exact ⟨_, _, _, rfl, .inl ⟨B, F, rfl, b1, b2, rfl, f0, f8, x, f, r, t, b, B, F - 1, by rw [show ((F - 1 : Nat) : Int) = (F : Int) - 1 by omega], hx, o, b2, by omega, fun v held rs im _ => by
      dsimp! [ends]
      exact dn_self (q v im)⟩⟩
  · exact ⟨_, _, _, rfl, .inr (.inl ⟨B, rfl, b1, b2, k, hk, hi, dnX_self q⟩)⟩
  · exact ⟨_, _, _, rfl, .inr (.inr ⟨k, hk, hi, dnX_self q⟩)⟩
theorem pl_never_refused (Z : Tx K mg a) : ∀ ts h Q E, ts.length = 3 → C_never_refused a ts h Q E → B_never_refused K a (ends Q E) (startT N_never_refused.length ts) h := by
  rintro ts h Q E - ⟨x, f, r, t, b, y, z, rfl, hx, o, hh⟩
  unfold B_never_refused
  dsimp! [C_least_refused]
  rcases hh with ⟨B, F, rfl, b1, b2, rfl, f0, f8, q⟩ | ⟨B, rfl, b1, b2, k, hk, hi, q⟩ | ⟨k, hk, hi, q⟩
  · refine ⟨x, f, r, t, b, _, _, rfl, hx, o, .inl ⟨B, F, rfl, b1, b2, rfl, f0, f8, fun v im => ?_⟩⟩
    dsimp! [ends]
    rw [show (B : Int) + 1 - v - 1 = B - v by omega]
    exact dn_self (q v im)
  · exact ⟨x, f, r, t, b, _, _, rfl, hx, o, .inr (.inl ⟨B, rfl, b1, b2, k, hk, hi, dnX_self q⟩)⟩
  · exact ⟨x, f, r, t, b, _, _, rfl, hx, o, .inr (.inr ⟨k, hk, hi, dnX_self q⟩)⟩
end
end TL

set_option maxHeartbeats 1000000
namespace TL
open PySem L2
theorem app_as (x y z : Str) : x ++ y ++ z = x ++ (y ++ z) := congrArg Str.mk (Array.append_assoc ..)
theorem emp_app9 (x : Str) : Str.empty ++ x = x := congrArg Str.mk (Array.empty_append ..)
theorem iS_sh {i : Int} (h1 : -2 ≤ i) (h2 : i ≤ 400) : Sh 5 (iS i) := int_sh h1 h2
def bd9 : Nat → Nat
  | 0 => 40
  | n + 1 => 2 * bd9 n + 5
theorem bd9_mono (n : Nat) : bd9 n ≤ bd9 (n + 1) := by
  show bd9 n ≤ 2 * bd9 n + 5
  omega
theorem bd9_le {n m : Nat} (h : n ≤ m) : bd9 n ≤ bd9 m := by
  induction h with
  | refl => exact Nat.le_refl _
  | step _ ih => exact Nat.le_trans ih (bd9_mono _)
theorem txt_sh : ∀ {w : Wi}, w.Ok → Sh (bd9 w.dep) (txt w)
  | .p s m, ⟨h1, h2, h3, h4⟩ => (((Sh.of "pieces " 7 (by decide)).app (iS_sh (by omega) (by omega))).app (Sh.of " " 1 (by decide))).app (iS_sh (by omega) (by omega)) |>.le (Nat.le_of_ble_eq_true rfl)
  | .i s m, ⟨h1, h2, h3, h4⟩ => (((Sh.of "idle " 5 (by decide)).app (iS_sh (by omega) (by omega))).app (Sh.of " " 1 (by decide))).app (iS_sh (by omega) (by omega)) |>.le (Nat.le_of_ble_eq_true rfl)
  | .k b f l, ⟨h1, h2, h3, h4, h5, h6⟩ => (((((Sh.of "kept " 5 (by decide)).app (iS_sh (by omega) (by omega))).app (Sh.of " " 1 (by decide))).app (iS_sh (by omega) (by omega))).app (Sh.of " " 1 (by decide))).app (iS_sh (by omega) (by omega)) |>.le (Nat.le_of_ble_eq_true rfl)
  | .both x y, ⟨hx, hy⟩ => by
    have h1 := (txt_sh hx).le (bd9_le (Nat.le_max_left x.dep y.dep))
    have h2 := (txt_sh hy).le (bd9_le (Nat.le_max_right x.dep y.dep))
    refine ((((Sh.of "(" 1 (by decide)).app h1).app (Sh.of " & " 3 (by decide))).app h2).app (Sh.of ")" 1 (by decide)) |>.le ?_
    show _ ≤ 2 * bd9 (max x.dep y.dep) + 5
    omega
  | .either x y, ⟨hx, hy⟩ => by
    have h1 := (txt_sh hx).le (bd9_le (Nat.le_max_left x.dep y.dep))
    have h2 := (txt_sh hy).le (bd9_le (Nat.le_max_right x.dep y.dep))
    refine ((((Sh.of "(" 1 (by decide)).app h1).app (Sh.of " | " 3 (by decide))).app h2).app (Sh.of ")" 1 (by decide)) |>.le ?_
    show _ ≤ 2 * bd9 (max x.dep y.dep) + 5
    omega
theorem txt_le {w : Wi} (o : w.Ok) (d : w.dep ≤ 4) : (txt w).length ≤ 2000 ∧ PyData.strOk (txt w) = true := by
  have := (txt_sh o).le (bd9_le d)
  exact ⟨Nat.le_trans this.1 (by decide), this.2⟩
theorem mpV_eq {f r t b s : Int} {g : Nat} (h : ∀ i, GB.E f r t b i < s ↔ i < g) : ((g : Nat) : Int) = mpV f r t b s := by
  have ex : ∃ g : Nat, ∀ i, GB.E f r t b i < s ↔ i < g := ⟨g, h⟩
  unfold mpV
  rw [dif_pos ex]
  have hc := Classical.choose_spec ex
  have e : Classical.choose ex = g := by
    rcases Nat.lt_trichotomy (Classical.choose ex) g with c | c | c
    · exact absurd ((hc _).mp ((h _).mpr c)) (Nat.lt_irrefl _)
    · exact c
    · exact absurd ((h _).mp ((hc _).mpr c)) (Nat.lt_irrefl _)
  rw [e]
theorem nvV_eq {f r t b : Int} {B F : Nat} {v : Int} (h : GR.IsMax (GR.Full f (GB.step f r t b) B (F - 1)) v) : (B : Int) - v = nvV f r t b B F := by
  have ex : ∃ v, GR.IsMax (GR.Full f (GB.step f r t b) B (F - 1)) v := ⟨v, h⟩
  unfold nvV
  rw [dif_pos ex, GR.IsMax.uniq h (Classical.choose_spec ex)]
section
variable {K : PySem.W.Frag} {mg : Str → Option Value} {a : Ad}
theorem js4 {s : Sl} {h : Hq} {E : EX} {a b c d : EM} {x y z u : Str} (ha : Ev s h E a (.str x)) (hb : Ev s h E b (.str y)) (hc : Ev s h E c (.str z)) (hd : Ev s h E d (.str u)) (l : x.length + y.length + z.length + u.length ≤ lim) : Ev s h E (eJs [a, b, c, d]) (.str (x ++ y ++ z ++ u)) := fun Q q => ha _ (by
  refine ⟨by rw [show Str.empty.length = 0 from rfl]; omega, hb _ ?_⟩
  rw [emp_app9]
  refine ⟨by omega, hc _ ⟨by rw [len_app]; omega, hd _ ⟨by rw [len_app, len_app]; exact l, q⟩⟩⟩)
theorem js5 {s : Sl} {h : Hq} {E : EX} {a b c d e : EM} {x y z u v : Str} (ha : Ev s h E a (.str x)) (hb : Ev s h E b (.str y)) (hc : Ev s h E c (.str z)) (hd : Ev s h E d (.str u)) (he : Ev s h E e (.str v)) (l : x.length + y.length + z.length + u.length + v.length ≤ lim) : Ev s h E (eJs [a, b, c, d, e]) (.str (x ++ y ++ z ++ u ++ v)) := fun Q q => ha _ (by
  refine ⟨by rw [show Str.empty.length = 0 from rfl]; omega, hb _ ?_⟩
  rw [emp_app9]
  refine ⟨by omega, hc _ ⟨by rw [len_app]; omega, hd _ ⟨by rw [len_app, len_app]; omega, he _ ⟨by rw [len_app, len_app, len_app]; exact l, q⟩⟩⟩⟩)
theorem js6 {s : Sl} {h : Hq} {E : EX} {a b c d e f : EM} {x y z u v w : Str} (ha : Ev s h E a (.str x)) (hb : Ev s h E b (.str y)) (hc : Ev s h E c (.str z)) (hd : Ev s h E d (.str u)) (he : Ev s h E e (.str v)) (hf : Ev s h E f (.str w)) (l : x.length + y.length + z.length + u.length + v.length + w.length ≤ lim) : Ev s h E (eJs [a, b, c, d, e, f]) (.str (x ++ y ++ z ++ u ++ v ++ w)) := fun Q q => ha _ (by
  refine ⟨by rw [show Str.empty.length = 0 from rfl]; omega, hb _ ?_⟩
  rw [emp_app9]
  refine ⟨by omega, hc _ ⟨by rw [len_app]; omega, hd _ ⟨by rw [len_app, len_app]; omega, he _ ⟨by rw [len_app, len_app, len_app]; omega, hf _ ⟨by rw [len_app, len_app, len_app, len_app]; exact l, q⟩⟩⟩⟩⟩)
theorem ev_fmt9 {s : Sl} {h : Hq} {E : EX} {e : EM} {i : Int} (he : Ev s h E e (.int i)) (h1 : -2 ≤ i) (h2 : i ≤ 400) : Ev s h E (eFmt e) (.str (iS i)) := ev_fmtIU he (log_small (by omega))
theorem ins_w (h : Hq) (w : Wi) : insOf h (wiT a w) = some (wiC a w, wiF a w) := by
  rw [wiT_eq]
  rfl
theorem D_call_at {n : Nat} {w : Wi} (d : w.dep ≤ n) : ∃ c, (wiC a w, c) ∈ D_call a n ∧ ∀ {B : T} {f r t b : Int} {h : Hq} {Q : TK} {E : Ex → Hq → Prop}, w.Ok → Bk a h B f r t b → GB.Ok f r t b → Q (.bl (met f r t b w)) h → c [wiT a w, B] h Q E := by
  have go : ∀ {P : Wi → Prop}, P w → ∀ {B : T} {f r t b : Int} {h : Hq} {Q : TK} {E : Ex → Hq → Prop}, w.Ok → Bk a h B f r t b → GB.Ok f r t b → Q (.bl (met f r t b w)) h → Cw a P [wiT a w, B] h Q E := fun {P} p {B f r t b h Q E} ow hB o q => ⟨w, B, f, r, t, b, rfl, p, ow, hB, o, q⟩
  cases w with
  | p s m => exact ⟨_, List.mem_cons_self, go (P := isP) ⟨s, m, rfl⟩⟩
  | i s m => exact ⟨_, List.mem_cons_of_mem _ List.mem_cons_self, go (P := isI) ⟨s, m, rfl⟩⟩
  | k b f l => exact ⟨_, List.mem_cons_of_mem _ (List.mem_cons_of_mem _ List.mem_cons_self), go (P := isK9) ⟨b, f, l, rfl⟩⟩
  | both x y => exact ⟨_, List.mem_cons_of_mem _ (List.mem_cons_of_mem _ (List.mem_cons_of_mem _ List.mem_cons_self)), go (P := isB n) ⟨⟨x, y, rfl⟩, d⟩⟩
  | either x y => exact ⟨_, List.mem_cons_of_mem _ (List.mem_cons_of_mem _ (List.mem_cons_of_mem _ (List.mem_cons_of_mem _ List.mem_cons_self))), go (P := isE n) ⟨⟨x, y, rfl⟩, d⟩⟩
theorem D_shown_at {n : Nat} {w : Wi} (d : w.dep ≤ n) : ∃ c, (wiC a w, c) ∈ D_shown a n ∧ ∀ {h : Hq} {Q : TK} {E : Ex → Hq → Prop}, w.Ok → w.dep ≤ 4 → Q (.str (txt w)) h → c [wiT a w] h Q E := by
  have go : ∀ {P : Wi → Prop}, P w → ∀ {h : Hq} {Q : TK} {E : Ex → Hq → Prop}, w.Ok → w.dep ≤ 4 → Q (.str (txt w)) h → Cs a P [wiT a w] h Q E := fun {P} p {h Q E} ow d4 q => ⟨w, rfl, p, ow, d4, q⟩
  cases w with
  | p s m => exact ⟨_, List.mem_cons_self, go (P := isP) ⟨s, m, rfl⟩⟩
  | i s m => exact ⟨_, List.mem_cons_of_mem _ List.mem_cons_self, go (P := isI) ⟨s, m, rfl⟩⟩
  | k b f l => exact ⟨_, List.mem_cons_of_mem _ (List.mem_cons_of_mem _ List.mem_cons_self), go (P := isK9) ⟨b, f, l, rfl⟩⟩
  | both x y => exact ⟨_, List.mem_cons_of_mem _ (List.mem_cons_of_mem _ (List.mem_cons_of_mem _ List.mem_cons_self)), go (P := isB n) ⟨⟨x, y, rfl⟩, d⟩⟩
  | either x y => exact ⟨_, List.mem_cons_of_mem _ (List.mem_cons_of_mem _ (List.mem_cons_of_mem _ (List.mem_cons_of_mem _ List.mem_cons_self))), go (P := isE n) ⟨⟨x, y, rfl⟩, d⟩⟩
theorem ev_ask {n : Nat} {w : Wi} {B : T} {f r t b : Int} {m e : EM} {s : Sl} {h : Hq} {E : EX} (hm : Ev s h E m (wiT a w)) (he : Ev s h E e B) (d : w.dep ≤ n) (ow : w.Ok) (hB : Bk a h B f r t b) (o : GB.Ok f r t b) : Ev s h E (eFrz (eOwnD (D_call a n) 2 m (aCons e aNil))) (.bl (met f r t b w)) := fun Q q => hm _ ⟨by rw [ins_w]; rfl, ac_ev he (an_go (by
  rw [ins_w]
  obtain ⟨c, hc, go⟩ := D_call_at (a := a) d
  exact ⟨rfl, c, hc, go ow hB o (frz_B q)⟩))⟩
theorem wiF_shown (w : Wi) : (wiF a w).lookup ("shown" : Str) = none := by cases w <;> rfl
theorem ev_shown {n : Nat} {w : Wi} {m : EM} {s : Sl} {h : Hq} {E : EX} (hm : Ev s h E m (wiT a w)) (d : w.dep ≤ n) (d4 : w.dep ≤ 4) (ow : w.Ok) : Ev s h E (eFrz (eMethD (D_shown a n) "shown" 1 m)) (.str (txt w)) := fun Q q => hm _ (by
  rw [ins_w]
  obtain ⟨c, hc, go⟩ := D_shown_at (a := a) d
  exact ⟨wiF_shown w, rfl, c, hc, go ow d4 (show frzK Q (.str (txt w)) h from q)⟩)
end
end TL

set_option maxHeartbeats 1000000
namespace TL
open PySem L2
section
variable {K : PySem.W.Frag} {mg : Str → Option Value} {a : Ad}
theorem p30' : (10 : Int) ^ 30 = 1000000000000000000000000000000 := by decide
theorem p40' : (10 : Int) ^ 40 = 10000000000000000000000000000000000000000 := by decide
theorem frz_n9 {Q : TK} {h : Hq} (q : Q .non h) : frzK Q .non h := q
theorem sFldT_end9 {C : Addr} {f : Str} {mo mv : EM} {y : T} {gs : List (Str × T)} {D : En} {s : Sl} {h : Hq} {p : Addr} (hy : Ev s h D.ex mv y) (hx : Ev s h D.ex mo (.ref p)) (hp : h p = some (.ins C gs)) (l : gs.length < 1000) (q : D.nx s (put h p (.ins C (putT f y gs)))) : sFldT C f mo mv D s h :=
  fldT_go (r := fun D s h => D.nx s h) hy hx hp l q
theorem mk2_go {C : Addr} {p : Addr} {u v : T} {h : Hq} {Q : TK} {E : Ex → Hq → Prop} (hp : h p = some (.ins C []))
    (q : (∃ s m, u = .int s ∧ v = .int m ∧ 0 ≤ s ∧ s ≤ 10 ^ 30 ∧ 0 ≤ m ∧ m ≤ 10 ^ 30 ∧ Q .non (put h p (.ins C [("size", .int s), ("most", .int m)]))) ∨
   (∃ k, kdOf h u = some k ∧ isInt u 0 (10 ^ 30) = false ∧ E (badN a u) h) ∨
   (∃ s k, u = .int s ∧ 0 ≤ s ∧ s ≤ 10 ^ 30 ∧ kdOf h v = some k ∧ isInt v 0 (10 ^ 30) = false ∧ E (badN a v) h)) :
    (sSeq (sDrop (eFrz (eCall 3 (C_check_integer a) (aCons (eVar 1) (aCons (eC (.int 0)) (aCons (eC (.int 1000000000000000000000000000000)) aNil))))))
    (sSeq (sDrop (eFrz (eCall 3 (C_check_integer a) (aCons (eVar 2) (aCons (eC (.int 0)) (aCons (eC (.int 1000000000000000000000000000000)) aNil))))))
    (sSeq (sFldT C "size" (eVar 0) (eVar 1))
    (sFldT C "most" (eVar 0) (eVar 2))))) (ends Q E) [some (.ref p), some u, some v] h := by
  rw [p30'] at q
  rcases q with ⟨s, m, rfl, rfl, s0, s1, m0, m1, q⟩ | ⟨k, hk, bad, q⟩ | ⟨s, k, rfl, s0, s1, hk, bad, q⟩
  · refine drop_go (calls (ea_cons (ev_var rfl) (ea_cons ev_c (ea_cons ev_c ea_nil))) rfl ⟨.int s, 0, _, rfl, .inl ⟨s, rfl, s0, s1, frz_n9 ?_⟩⟩)
    refine drop_go (calls (ea_cons (ev_var rfl) (ea_cons ev_c (ea_cons ev_c ea_nil))) rfl ⟨.int m, 0, _, rfl, .inl ⟨m, rfl, m0, m1, frz_n9 ?_⟩⟩)
    refine fldT_go (ev_var rfl) (ev_var rfl) hp (Nat.le_of_ble_eq_true rfl) (sFldT_end9 (ev_var rfl) (ev_var rfl) put_same (Nat.le_of_ble_eq_true rfl) ?_)
    rw [put_put]
    exact dn_self q
  · exact drop_go (calls (ea_cons (ev_var rfl) (ea_cons ev_c (ea_cons ev_c ea_nil))) rfl ⟨u, 0, _, rfl, .inr ⟨k, hk, bad, dnX_self q⟩⟩)
  · refine drop_go (calls (ea_cons (ev_var rfl) (ea_cons ev_c (ea_cons ev_c ea_nil))) rfl ⟨.int s, 0, _, rfl, .inl ⟨s, rfl, s0, s1, frz_n9 ?_⟩⟩)
    exact drop_go (calls (ea_cons (ev_var rfl) (ea_cons ev_c (ea_cons ev_c ea_nil))) rfl ⟨v, 0, _, rfl, .inr ⟨k, hk, bad, dnX_self q⟩⟩)
theorem pl_FewPieces___init__ (Z : Tx K mg a) : ∀ ts h Q E, ts.length = 3 → C_FewPieces___init__ a ts h Q E → B_FewPieces___init__ K a (ends Q E) (startT N_FewPieces___init__.length ts) h := by
  rintro ts h Q E - ⟨p, u, v, rfl, hp, q⟩
  exact mk2_go hp q
theorem pl_LittleIdle___init__ (Z : Tx K mg a) : ∀ ts h Q E, ts.length = 3 → C_LittleIdle___init__ a ts h Q E → B_LittleIdle___init__ K a (ends Q E) (startT N_LittleIdle___init__.length ts) h := by
  rintro ts h Q E - ⟨p, u, v, rfl, hp, q⟩
  exact mk2_go hp q
theorem pl_NoRefusal___init__ (Z : Tx K mg a) : ∀ ts h Q E, ts.length = 4 → C_NoRefusal___init__ a ts h Q E → B_NoRefusal___init__ K a (ends Q E) (startT N_NoRefusal___init__.length ts) h := by
  rintro ts h Q E - ⟨p, y, z, l, rfl, hp, q⟩
  unfold B_NoRefusal___init__
  refine drop_go (calls (ea_cons (ev_var rfl) (ea_cons (ev_var rfl) (ea_cons ev_c ea_nil))) rfl ⟨y, z, 1, rfl, ?_⟩)
  rcases q with ⟨B, F, rfl, b0, b1, rfl, f0, f1, q⟩ | ⟨B, rfl, b0, b1, k, hk, bad, q⟩ | ⟨k, hk, bad, q⟩
  · refine .inl ⟨B, F, rfl, b0, b1, rfl, f0, f1, frz_n9 ?_⟩
    rcases q with ⟨m, rfl, m0, m1, q⟩ | ⟨k, hk, bad, q⟩
    · refine drop_go (calls (ea_cons (ev_var rfl) (ea_cons ev_c (ea_cons ev_c ea_nil))) rfl ⟨.int m, 0, _, rfl, .inl ⟨m, rfl, m0, m1, frz_n9 ?_⟩⟩)
      refine fldT_go (ev_var rfl) (ev_var rfl) hp (Nat.le_of_ble_eq_true rfl) (fldT_go (ev_var rfl) (ev_var rfl) put_same (Nat.le_of_ble_eq_true rfl) (sFldT_end9 (ev_var rfl) (ev_var rfl) put_same (Nat.le_of_ble_eq_true rfl) ?_))
      rw [put_put, put_put]
      exact dn_self q
    · exact drop_go (calls (ea_cons (ev_var rfl) (ea_cons ev_c (ea_cons ev_c ea_nil))) rfl ⟨l, 0, _, rfl, .inr ⟨k, hk, bad, dnX_self q⟩⟩)
  · exact .inr (.inl ⟨B, rfl, b0, b1, k, hk, bad, dnX_self q⟩)
  · exact .inr (.inr ⟨k, hk, bad, dnX_self q⟩)
theorem pl_BothWishes___init__ (Z : Tx K mg a) : ∀ ts h Q E, ts.length = 3 → C_BothWishes___init__ a ts h Q E → B_BothWishes___init__ K a (ends Q E) (startT N_BothWishes___init__.length ts) h := by
  rintro ts h Q E - ⟨p, u, v, rfl, hp, q⟩
  unfold B_BothWishes___init__
  refine fldT_go (ev_var rfl) (ev_var rfl) hp (Nat.le_of_ble_eq_true rfl) (sFldT_end9 (ev_var rfl) (ev_var rfl) put_same (Nat.le_of_ble_eq_true rfl) ?_)
  rw [put_put]
  exact dn_self q
theorem pl_EitherWish___init__ (Z : Tx K mg a) : ∀ ts h Q E, ts.length = 3 → C_EitherWish___init__ a ts h Q E → B_EitherWish___init__ K a (ends Q E) (startT N_EitherWish___init__.length ts) h := by
  rintro ts h Q E - ⟨p, u, v, rfl, hp, q⟩
  unfold B_EitherWish___init__
  refine fldT_go (ev_var rfl) (ev_var rfl) hp (Nat.le_of_ble_eq_true rfl) (sFldT_end9 (ev_var rfl) (ev_var rfl) put_same (Nat.le_of_ble_eq_true rfl) ?_)
  rw [put_put]
  exact dn_self q
theorem ev_mp {x e : EM} {B : T} {f r t b k : Int} {s : Sl} {h : Hq} {E : EX} (hx : Ev s h E x B) (he : Ev s h E e (.int k)) (hB : Bk a h B f r t b) (o : GB.Ok f r t b) (k0 : 0 ≤ k) (k1 : k ≤ 100) :
    Ev s h E (eFrz (eCallK 2 0 3 (fun ts zs => match ts, zs with | [x0, x1], [] => [x0, x1, (.bl false)] | _, _ => []) (C_most_pieces a) (aCons x (aCons e aNil)) aNil)) (.int (mpV f r t b k)) := fun Q q => by
  unfold eFrz eCallK
  refine (ea_cons hx (ea_cons he ea_nil)) _ (ea_nil _ ⟨rfl, rfl, rfl, ?_⟩)
  refine ⟨B, f, r, t, b, .int k, .bl false, rfl, hB, o, .inl ⟨k, rfl, k0, by rw [p40']; omega, .inl ⟨false, rfl, fun g hg => ?_⟩⟩⟩
  rw [if_neg Bool.false_ne_true, mpV_eq hg]
  exact frz_I q
theorem ev_mi {x e : EM} {B : T} {f r t b k : Int} {s : Sl} {h : Hq} {E : EX} (hx : Ev s h E x B) (he : Ev s h E e (.int k)) (hB : Bk a h B f r t b) (o : GB.Ok f r t b) (k0 : 0 ≤ k) (k1 : k ≤ 100) :
    Ev s h E (eFrz (eCall 2 (C_most_idle a) (aCons x (aCons e aNil)))) (.int (mostIdle f r t b k)) := fun Q q => calls (ea_cons hx (ea_cons he ea_nil)) rfl ⟨B, f, r, t, b, .int k, rfl, hB, o, .inl ⟨k, rfl, k0, by rw [p30']; omega, frz_I q⟩⟩
theorem ev_nv {x e g : EM} {B : T} {f r t b k l : Int} {s : Sl} {h : Hq} {E : EX} (hx : Ev s h E x B) (he : Ev s h E e (.int k)) (hg : Ev s h E g (.int l)) (hB : Bk a h B f r t b) (o : GB.Ok f r t b) (k0 : 1 ≤ k) (k1 : k ≤ 100) (l0 : 1 ≤ l) (l1 : l ≤ 8) :
    Ev s h E (eFrz (eCall 3 (C_never_refused a) (aCons x (aCons e (aCons g aNil))))) (.int (nvV f r t b k.toNat l.toNat)) := fun Q q => calls (ea_cons hx (ea_cons he (ea_cons hg ea_nil))) rfl ⟨B, f, r, t, b, .int k, .int l, rfl, hB, o, .inl ⟨k.toNat, l.toNat, by rw [Int.toNat_of_nonneg (by omega)], by omega, by omega, by rw [Int.toNat_of_nonneg (by omega)], by omega, by omega, fun v hv => by
  rw [nvV_eq hv]
  exact frz_I q⟩⟩
theorem ev_orV {s : Sl} {h : Hq} {E : EX} {x y : EM} {b c : Bool} (hx : Ev s h E x (.bl b)) (hy : Ev s h E y (.bl c)) : Ev s h E (eOrV x y) (.bl (b || c)) := by
  cases b with
  | true => exact ev_orT hx
  | false => exact ev_orF hx hy
theorem pl_FewPieces___call__ (Z : Tx K mg a) : ∀ ts h Q E, ts.length = 2 → C_FewPieces___call__ a ts h Q E → B_FewPieces___call__ K a (ends Q E) (startT N_FewPieces___call__.length ts) h := by
  rintro ts h Q E - ⟨w, B, f, r, t, b, rfl, ⟨s, m, rfl⟩, ⟨s0, s1, m0, m1⟩, hB, o, q⟩
  unfold B_FewPieces___call__
  exact ret_ev (ev_le (ev_mp (ev_var rfl) (ev_fld (t := .int s) (ev_var rfl) (ins_w h (.p s m)) rfl) hB o s0 s1) (ev_fld (t := .int m) (ev_var rfl) (ins_w h (.p s m)) rfl)) (dn_self q)
theorem pl_LittleIdle___call__ (Z : Tx K mg a) : ∀ ts h Q E, ts.length = 2 → C_LittleIdle___call__ a ts h Q E → B_LittleIdle___call__ K a (ends Q E) (startT N_LittleIdle___call__.length ts) h := by
  rintro ts h Q E - ⟨w, B, f, r, t, b, rfl, ⟨s, m, rfl⟩, ⟨s0, s1, m0, m1⟩, hB, o, q⟩
  unfold B_LittleIdle___call__
  exact ret_ev (ev_le (ev_mi (ev_var rfl) (ev_fld (t := .int s) (ev_var rfl) (ins_w h (.i s m)) rfl) hB o s0 s1) (ev_fld (t := .int m) (ev_var rfl) (ins_w h (.i s m)) rfl)) (dn_self q)
theorem pl_NoRefusal___call__ (Z : Tx K mg a) : ∀ ts h Q E, ts.length = 2 → C_NoRefusal___call__ a ts h Q E → B_NoRefusal___call__ K a (ends Q E) (startT N_NoRefusal___call__.length ts) h := by
  rintro ts h Q E - ⟨w, B, f, r, t, b, rfl, ⟨x, y, z, rfl⟩, ⟨x0, x1, y0, y1, z0, z1⟩, hB, o, q⟩
  unfold B_NoRefusal___call__
  exact ret_ev (ev_ge (ev_nv (ev_var rfl) (ev_fld (t := .int x) (ev_var rfl) (ins_w h (.k x y z)) rfl) (ev_fld (t := .int y) (ev_var rfl) (ins_w h (.k x y z)) rfl) hB o x0 x1 y0 y1) (ev_fld (t := .int z) (ev_var rfl) (ins_w h (.k x y z)) rfl)) (dn_self q)
theorem pl_BothWishes___call__ (Z : Tx K mg a) (n : Nat) : ∀ ts h Q E, ts.length = 2 → C_BothWishes___call__ a (n + 1) ts h Q E → B_BothWishes___call__ K a n (ends Q E) (startT N_BothWishes___call__.length ts) h := by
  rintro ts h Q E - ⟨w, B, f, r, t, b, rfl, ⟨⟨x, y, rfl⟩, d⟩, ⟨ox, oy⟩, hB, o, q⟩
  unfold B_BothWishes___call__
  have d' : max x.dep y.dep + 1 ≤ n + 1 := d
  exact ret_ev (ev_andV (ev_ask (ev_fld (t := wiT a x) (ev_var rfl) (ins_w h (.both x y)) rfl) (ev_var rfl) (by omega) ox hB o) (ev_ask (ev_fld (t := wiT a y) (ev_var rfl) (ins_w h (.both x y)) rfl) (ev_var rfl) (by omega) oy hB o)) (dn_self q)
theorem pl_EitherWish___call__ (Z : Tx K mg a) (n : Nat) : ∀ ts h Q E, ts.length = 2 → C_EitherWish___call__ a (n + 1) ts h Q E → B_EitherWish___call__ K a n (ends Q E) (startT N_EitherWish___call__.length ts) h := by
  rintro ts h Q E - ⟨w, B, f, r, t, b, rfl, ⟨⟨x, y, rfl⟩, d⟩, ⟨ox, oy⟩, hB, o, q⟩
  unfold B_EitherWish___call__
  have d' : max x.dep y.dep + 1 ≤ n + 1 := d
  exact ret_ev (ev_orV (ev_ask (ev_fld (t := wiT a x) (ev_var rfl) (ins_w h (.either x y)) rfl) (ev_var rfl) (by omega) ox hB o) (ev_ask (ev_fld (t := wiT a y) (ev_var rfl) (ins_w h (.either x y)) rfl) (ev_var rfl) (by omega) oy hB o)) (dn_self q)
theorem lim2 {n : Nat} (h : n ≤ 2000) : n ≤ lim := Nat.le_trans h (Nat.le_of_ble_eq_true rfl)
theorem pl_FewPieces_shown (Z : Tx K mg a) : ∀ ts h Q E, ts.length = 1 → C_FewPieces_shown a ts h Q E → B_FewPieces_shown K a (ends Q E) (startT N_FewPieces_shown.length ts) h := by
  rintro ts h Q E - ⟨w, rfl, ⟨s, m, rfl⟩, o, d4, q⟩
  unfold B_FewPieces_shown
  have l := (txt_le o d4).1
  obtain ⟨s0, s1, m0, m1⟩ := o
  unfold txt at l
  rw [len_app, len_app, len_app] at l
  exact ret_ev (js4 ev_c (ev_fmt9 (ev_fld (t := .int s) (ev_var rfl) (ins_w h (.p s m)) rfl) (by omega) (by omega)) ev_c (ev_fmt9 (ev_fld (t := .int m) (ev_var rfl) (ins_w h (.p s m)) rfl) (by omega) (by omega)) (lim2 l)) (dn_self q)
theorem pl_LittleIdle_shown (Z : Tx K mg a) : ∀ ts h Q E, ts.length = 1 → C_LittleIdle_shown a ts h Q E → B_LittleIdle_shown K a (ends Q E) (startT N_LittleIdle_shown.length ts) h := by
  rintro ts h Q E - ⟨w, rfl, ⟨s, m, rfl⟩, o, d4, q⟩
  unfold B_LittleIdle_shown
  have l := (txt_le o d4).1
  obtain ⟨s0, s1, m0, m1⟩ := o
  unfold txt at l
  rw [len_app, len_app, len_app] at l
  exact ret_ev (js4 ev_c (ev_fmt9 (ev_fld (t := .int s) (ev_var rfl) (ins_w h (.i s m)) rfl) (by omega) (by omega)) ev_c (ev_fmt9 (ev_fld (t := .int m) (ev_var rfl) (ins_w h (.i s m)) rfl) (by omega) (by omega)) (lim2 l)) (dn_self q)
theorem pl_NoRefusal_shown (Z : Tx K mg a) : ∀ ts h Q E, ts.length = 1 → C_NoRefusal_shown a ts h Q E → B_NoRefusal_shown K a (ends Q E) (startT N_NoRefusal_shown.length ts) h := by
  rintro ts h Q E - ⟨w, rfl, ⟨x, y, z, rfl⟩, o, d4, q⟩
  unfold B_NoRefusal_shown
  have l := (txt_le o d4).1
  obtain ⟨x0, x1, y0, y1, z0, z1⟩ := o
  unfold txt at l
  rw [len_app, len_app, len_app, len_app, len_app] at l
  exact ret_ev (js6 ev_c (ev_fmt9 (ev_fld (t := .int x) (ev_var rfl) (ins_w h (.k x y z)) rfl) (by omega) (by omega)) ev_c (ev_fmt9 (ev_fld (t := .int y) (ev_var rfl) (ins_w h (.k x y z)) rfl) (by omega) (by omega)) ev_c (ev_fmt9 (ev_fld (t := .int z) (ev_var rfl) (ins_w h (.k x y z)) rfl) (by omega) (by omega)) (lim2 l)) (dn_self q)
theorem pl_BothWishes_shown (Z : Tx K mg a) (n : Nat) : ∀ ts h Q E, ts.length = 1 → C_BothWishes_shown a (n + 1) ts h Q E → B_BothWishes_shown K a n (ends Q E) (startT N_BothWishes_shown.length ts) h := by
  rintro ts h Q E - ⟨w, rfl, ⟨⟨x, y, rfl⟩, d⟩, o, d4, q⟩
  unfold B_BothWishes_shown
  have l := (txt_le o d4).1
  obtain ⟨ox, oy⟩ := o
  have d' : max x.dep y.dep + 1 ≤ n + 1 := d
  have d4' : max x.dep y.dep + 1 ≤ 4 := d4
  unfold txt at l
  rw [len_app, len_app, len_app, len_app] at l
  exact ret_ev (js5 ev_c (ev_fmtSU (ev_shown (ev_fld (t := wiT a x) (ev_var rfl) (ins_w h (.both x y)) rfl) (by omega) (by omega) ox) (lim2 (by omega))) ev_c (ev_fmtSU (ev_shown (ev_fld (t := wiT a y) (ev_var rfl) (ins_w h (.both x y)) rfl) (by omega) (by omega) oy) (lim2 (by omega))) ev_c (lim2 l)) (dn_self q)
theorem pl_EitherWish_shown (Z : Tx K mg a) (n : Nat) : ∀ ts h Q E, ts.length = 1 → C_EitherWish_shown a (n + 1) ts h Q E → B_EitherWish_shown K a n (ends Q E) (startT N_EitherWish_shown.length ts) h := by
  rintro ts h Q E - ⟨w, rfl, ⟨⟨x, y, rfl⟩, d⟩, o, d4, q⟩
  unfold B_EitherWish_shown
  have l := (txt_le o d4).1
  obtain ⟨ox, oy⟩ := o
  have d' : max x.dep y.dep + 1 ≤ n + 1 := d
  have d4' : max x.dep y.dep + 1 ≤ 4 := d4
  unfold txt at l
  rw [len_app, len_app, len_app, len_app] at l
  exact ret_ev (js5 ev_c (ev_fmtSU (ev_shown (ev_fld (t := wiT a x) (ev_var rfl) (ins_w h (.either x y)) rfl) (by omega) (by omega) ox) (lim2 (by omega))) ev_c (ev_fmtSU (ev_shown (ev_fld (t := wiT a y) (ev_var rfl) (ins_w h (.either x y)) rfl) (by omega) (by omega) oy) (lim2 (by omega))) ev_c (lim2 l)) (dn_self q)
end
end TL

set_option maxHeartbeats 1000000
namespace TL
open PySem L2
section
variable {K : PySem.W.Frag} {mg : Str → Option Value} {a : Ad}
theorem ev_isW (Z : Tx K mg a) {w : Wi} {m : EM} {s : Sl} {h : Hq} {E : EX} (hm : Ev s h E m (wiT a w)) : Ev s h E (eCB (oIsiC K) (aCons m (aCons (eC (.ref a.c_Wish)) aNil))) (.bl true) := fun Q q => (ea_cons hm (ea_cons ev_c ea_nil)) _ (by
  have go : TyC K (wiC a w) → PySem.W.kitOne K (.ref (wiC a w)) (.ref a.c_Wish) = some true → oIsiC K [wiT a w, .ref a.c_Wish] h Q := fun ty ki => .inr ⟨wiC a w, wiF a w, true, ins_w h w, ty, ki, q⟩
  cases w with
  | p s m => exact go Z.ty_FewPieces Z.ki_FewPieces_Wish
  | i s m => exact go Z.ty_LittleIdle Z.ki_LittleIdle_Wish
  | k b f l => exact go Z.ty_NoRefusal Z.ki_NoRefusal_Wish
  | both x y => exact go Z.ty_BothWishes Z.ki_BothWishes_Wish
  | either x y => exact go Z.ty_EitherWish Z.ki_EitherWish_Wish)
theorem make0_go {C : Addr} {n : Nat} {c : Con} {ma : AM} {vs : List T} {s : Sl} {h : Hq} {E : EX} {Q : TK} (hm : Ea s h E ma vs) (l : vs.length = n) (q : ∀ p, h p = none → c (.ref p :: (vs ++ [])) (put h p (.ins C [])) (fun v h3 => v = .non ∧ Q (.ref p) h3) fun y h3 => E y s h3) : eMake C n 0 c ma aNil s h Q E := by
  unfold eMake
  exact hm _ (ea_nil _ ⟨l, rfl, q⟩)
theorem pl_Wish___and__ (Z : Tx K mg a) : ∀ ts h Q E, ts.length = 2 → C_Wish___and__ a ts h Q E → B_Wish___and__ K a (ends Q E) (startT N_Wish___and__.length ts) h := by
  rintro ts h Q E - ⟨x, y, rfl, q⟩
  unfold B_Wish___and__
  refine sif_no (ef_as (ef_not (ef_tru (ev_isW Z (w := y) (ev_var rfl)))) rfl) (ret_go (make0_go (ea_cons (ev_var rfl) (ea_cons (ev_var rfl) ea_nil)) rfl fun p np => ⟨p, wiT a x, wiT a y, rfl, put_same, rfl, ?_⟩))
  rw [put_put]
  exact dn_self (q p np)
theorem pl_Wish___or__ (Z : Tx K mg a) : ∀ ts h Q E, ts.length = 2 → C_Wish___or__ a ts h Q E → B_Wish___or__ K a (ends Q E) (startT N_Wish___or__.length ts) h := by
  rintro ts h Q E - ⟨x, y, rfl, q⟩
  unfold B_Wish___or__
  refine sif_no (ef_as (ef_not (ef_tru (ev_isW Z (w := y) (ev_var rfl)))) rfl) (ret_go (make0_go (ea_cons (ev_var rfl) (ea_cons (ev_var rfl) ea_nil)) rfl fun p np => ⟨p, wiT a x, wiT a y, rfl, put_same, rfl, ?_⟩))
  rw [put_put]
  exact dn_self (q p np)
theorem pl_Wish___eq__ (Z : Tx K mg a) : ∀ ts h Q E, ts.length = 2 → C_Wish___eq__ a ts h Q E → B_Wish___eq__ K a (ends Q E) (startT N_Wish___eq__.length ts) h := by
  rintro ts h Q E - (⟨x, y, rfl, ox, dx, oy, dy, q⟩ | ⟨x, z, rfl, q⟩)
  · unfold B_Wish___eq__
    exact ret_ev (ev_andT (ev_isW Z (w := y) (ev_var rfl)) (ev_str (ev_shown (w := x) (ev_var rfl) dx dx ox) (ev_shown (w := y) (ev_var rfl) dy dy oy) (txt_le ox dx).2 (txt_le oy dy).2 rfl)) (dn_self q)
  · unfold B_Wish___eq__
    exact ret_ev (ev_andF fun R rr => (ea_cons (ev_var rfl) (ea_cons ev_c ea_nil)) _ (.inl ⟨.str, rfl, Z.kn_Wish .str, rr⟩)) (dn_self q)
def tag : Wi → Str
  | .p _ _ => "pieces"
  | .i _ _ => "idle"
  | .k _ _ _ => "kept"
  | .both _ _ => "&"
  | .either _ _ => "|"
theorem tag_ok (w : Wi) : PyData.strOk (tag w) = true := by cases w <;> exact strOk_of _
theorem ev_tag {i : Nat} {w : Wi} {s : Sl} {h : Hq} {E : EX} (hi : s[i]? = some (some (trT w))) : Ev s h E (eOp oIx (eVar i) (eC (.int 0))) (.str (tag w)) := by
  refine ev_ixL (x := trT w) (ts := trL w) (ev_var hi) ev_c rfl ?_
  cases w <;> exact atI_0
theorem ef_tag {i : Nat} {w : Wi} {s : Sl} {h : Hq} {E : EX} (hi : s[i]? = some (some (trT w))) (z : String) : Ef s h E (decide (tag w = (z : Str))) (tOf (eOp oEq (eOp oIx (eVar i) (eC (.int 0))) (eC (.str (z : Str))))) := ef_of (ev_str (ev_tag hi) ev_c (tag_ok w) (strOk_of z) rfl)
theorem ev_at {i k : Nat} {w : Wi} {t : T} {s : Sl} {h : Hq} {E : EX} (hi : s[i]? = some (some (trT w))) (e : (trL w)[k]? = some t) : Ev s h E (eOp oIx (eVar i) (eC (.int (k : Nat)))) t := ev_ixL (x := trT w) (ts := trL w) (ev_var hi) ev_c rfl (atI_nat' e)
theorem amp_eq : ("&" : Str) = ⟨#[38]⟩ := by decide +kernel
theorem bar_eq : ("|" : Str) = ⟨#[124]⟩ := by decide +kernel
theorem two_at : atI (("&|" : Str).cps.toList) 0 = some 38 ∧ atI (("&|" : Str).cps.toList) 1 = some 124 ∧ ("&|" : Str).length ≤ 2000 := by decide +kernel
theorem pl_law_wish (Z : Tx K mg a) (n : Nat) : ∀ ts h Q E, ts.length = 2 → C_law_wish (n + 1) ts h Q E → B_law_wish K a n (ends Q E) (startT N_law_wish.length ts) h := by
  rintro ts h Q E - ⟨p, d, rfl, hp, dn, q⟩
  unfold B_law_wish
  refine set_go (draw_go rfl ev_c hp (by decide) (by decide) fun w w0 w1 => ?_)
  by_cases c : 0 < d ∧ 2 < w
  · obtain ⟨d', rfl⟩ : ∃ d', d = d' + 1 := ⟨d - 1, by omega⟩
    refine sif_yes (ef_and2 (ef_of (ev_as (ev_gt (ev_var rfl) ev_c) (by rw [decide_eq_true (by omega)]))) (ef_of (ev_as (ev_gt (ev_var rfl) ev_c) (by rw [decide_eq_true (by omega)])))) ?_
    have ed : T.int (((d' + 1 : Nat) : Int) - 1) = .int (d' : Nat) := congrArg T.int (by omega)
    have row : ∀ (z : Str) (mkW : Wi → Wi → Wi), (∀ x y, trL (mkW x y) = [.str z, trT x, trT y]) → (∀ x y : Wi, x.dep ≤ d' → y.dep ≤ d' → (mkW x y).dep ≤ d' + 1) → (∀ x y : Wi, x.Ok → y.Ok → (mkW x y).Ok) →
        Ev (([some (.ref p), some (.int ((d' + 1 : Nat) : Int)), none].set 2 (some (.int w))) : Sl) h (ends Q E).ex (eOp oIx (eC (.str "&|")) (eOp oSub (eVar 2) (eC (.int 3)))) (.str z) →
        sRet (eLst false (aCons (eOp oIx (eC (.str "&|")) (eOp oSub (eVar 2) (eC (.int 3)))) (aCons (eFrz (eCall 2 (C_law_wish n) (aCons (eVar 0) (aCons (eOp oSub (eVar 1) (eC (.int 1))) aNil)))) (aCons (eFrz (eCall 2 (C_law_wish n) (aCons (eVar 0) (aCons (eOp oSub (eVar 1) (eC (.int 1))) aNil)))) aNil)))) (ends Q E) (([some (.ref p), some (.int ((d' + 1 : Nat) : Int)), none].set 2 (some (.int w))) : Sl) h := fun z mkW h1 h2 h3 sg => by
      refine ret_go ?_
      unfold eLst
      refine ac_ev sg (ac_any (calls (ea_cons (ev_var rfl) (ea_cons (ev_as (ev_sub (ev_var rfl) ev_c) ed) ea_nil)) rfl ⟨p, d', rfl, hp, by omega, fun x dx ox l nl => frz_lst nl ?_⟩))
      refine ac_any (calls (ea_cons (ev_var rfl) (ea_cons (ev_as (ev_sub (ev_var rfl) ev_c) ed) ea_nil)) rfl ⟨p, d', rfl, hp, by omega, fun y dy oy l2 nl2 => frz_lst nl2 ?_⟩)
      refine an_go ⟨Nat.le_of_ble_eq_true rfl, ?_⟩
      rw [mk_false]
      intro l3 nl3
      have := q (mkW x y) (h2 x y dx dy) (h3 x y ox oy) l3 nl3
      rw [h1] at this
      exact dn_self this
    by_cases c3 : w = 3
    · subst c3
      exact row "&" .both (fun x y => rfl) (fun x y dx dy => show max x.dep y.dep + 1 ≤ d' + 1 by omega) (fun x y ox oy => ⟨ox, oy⟩) (ev_as (ev_ixU (c := 38) ev_c (ev_sub (ev_var rfl) ev_c) (lim2 two_at.2.2) two_at.1) (by rw [← amp_eq]))
    · have c4 : w = 4 := by omega
      subst c4
      exact row "|" .either (fun x y => rfl) (fun x y dx dy => show max x.dep y.dep + 1 ≤ d' + 1 by omega) (fun x y ox oy => ⟨ox, oy⟩) (ev_as (ev_ixU (c := 124) ev_c (ev_sub (ev_var rfl) ev_c) (lim2 two_at.2.2) two_at.2.1) (by rw [← bar_eq]))
  · have no : Ef (((startT N_law_wish.length [.ref p, .int (d : Nat)]).set 2 (some (.int w)))) h (ends Q E).ex false (tAndM (tOf (eOp oGt (eVar 1) (eC (.int 0)))) (tOf (eOp oGt (eVar 2) (eC (.int 2))))) := by
      by_cases c0 : 0 < d
      · exact ef_and2 (ef_of (ev_as (ev_gt (ev_var rfl) ev_c) (by rw [decide_eq_true (by omega)]))) (ef_of (ev_as (ev_gt (ev_var rfl) ev_c) (by rw [decide_eq_false (by omega)])))
      · exact ef_and1 (ef_of (ev_as (ev_gt (ev_var rfl) ev_c) (by rw [decide_eq_false (by omega)])))
    refine sif_no no ?_
    by_cases c0 : w = 0
    · refine sif_yes (ef_of (ev_as (ev_eqI (ev_var rfl) ev_c) (by rw [decide_eq_true c0]))) (ret_go ?_)
      unfold eLst
      refine ac_ev ev_c (ac_any (draw_go rfl ev_c hp (by decide) (by decide) fun s s0 s1 => ac_any (draw_go rfl ev_c hp (by decide) (by decide) fun m m0 m1 => an_go ⟨Nat.le_of_ble_eq_true rfl, ?_⟩)))
      rw [mk_false]
      exact fun l nl => dn_self (q (.p s m) (Nat.zero_le _) ⟨s0, by omega, m0, by omega⟩ l nl)
    · refine sif_no (ef_of (ev_as (ev_eqI (ev_var rfl) ev_c) (by rw [decide_eq_false c0]))) ?_
      by_cases c1 : w = 1
      · refine sif_yes (ef_of (ev_as (ev_eqI (ev_var rfl) ev_c) (by rw [decide_eq_true c1]))) (ret_go ?_)
        unfold eLst
        refine ac_ev ev_c (ac_any (draw_go rfl ev_c hp (by decide) (by decide) fun s s0 s1 => ac_any (draw_go rfl ev_c hp (by decide) (by decide) fun m m0 m1 => an_go ⟨Nat.le_of_ble_eq_true rfl, ?_⟩)))
        rw [mk_false]
        exact fun l nl => dn_self (q (.i s m) (Nat.zero_le _) ⟨s0, by omega, m0, by omega⟩ l nl)
      · refine sif_no (ef_of (ev_as (ev_eqI (ev_var rfl) ev_c) (by rw [decide_eq_false c1]))) (ret_go ?_)
        unfold eLst
        refine ac_ev ev_c (ac_any (op_go (ev_c _ (draw_go rfl ev_c hp (by decide) (by decide) fun x x0 x1 => add_go ?_))))
        refine ac_any (op_go (ev_c _ (draw_go rfl ev_c hp (by decide) (by decide) fun y y0 y1 => add_go ?_)))
        refine ac_any (draw_go rfl ev_c hp (by decide) (by decide) fun z z0 z1 => an_go ⟨Nat.le_of_ble_eq_true rfl, ?_⟩)
        rw [mk_false]
        exact fun l nl => dn_self (q (.k (1 + x) (1 + y) z) (Nat.zero_le _) ⟨by omega, by omega, by omega, by omega, z0, by omega⟩ l nl)
theorem w_fam (w : Wi) : wiC a w ∈ fam_cs a := by
  cases w with
  | p s m => exact List.mem_cons_self
  | i s m => exact List.mem_cons_of_mem _ List.mem_cons_self
  | k b f l => exact List.mem_cons_of_mem _ (List.mem_cons_of_mem _ List.mem_cons_self)
  | both x y => exact List.mem_cons_of_mem _ (List.mem_cons_of_mem _ (List.mem_cons_of_mem _ List.mem_cons_self))
  | either x y => exact List.mem_cons_of_mem _ (List.mem_cons_of_mem _ (List.mem_cons_of_mem _ (List.mem_cons_of_mem _ List.mem_cons_self)))
theorem ownM_go {c : Con} {x y : Wi} {h : Hq} {Q : TK} (q : c [wiT a x, wiT a y] h Q fun _ _ => False) : oOwnM (fam_cs a) c (wiT a x) (wiT a y) h Q := by
  unfold oOwnM
  rw [ins_w, ins_w]
  exact ⟨w_fam x, w_fam y, q⟩
theorem pl_law_wished (Z : Tx K mg a) (n : Nat) : ∀ ts h Q E, ts.length = 1 → C_law_wished a (n + 1) ts h Q E → B_law_wished K a n (ends Q E) (startT N_law_wished.length ts) h := by
  rintro ts h Q E - ⟨w, rfl, dw, ow, q⟩
  unfold B_law_wished
  have tg : ∀ {s : Sl} (z : String), s[0]? = some (some (trT w)) → ∀ {b : Bool}, decide (tag w = (z : Str)) = b → Ef s h (ends Q E).ex b (tOf (eOp oEq (eOp oIx (eVar 0) (eC (.int 0))) (eC (.str (z : Str))))) := fun {s} z hi {b} e => ef_as (ef_tag hi z) e
  cases w with
  | p s m =>
    obtain ⟨s0, s1, m0, m1⟩ := ow
    refine sif_yes (tg "pieces" rfl (decide_eq_true rfl)) (ret_go (make0_go (ea_cons (ev_at (w := .p s m) (k := 1) rfl rfl) (ea_cons (ev_at (w := .p s m) (k := 2) rfl rfl) ea_nil)) rfl fun p np => ⟨p, .int s, .int m, rfl, put_same, .inl ⟨s, m, rfl, rfl, s0, by rw [p30']; omega, m0, by rw [p30']; omega, rfl, ?_⟩⟩))
    rw [put_put]
    exact dn_self (q p np)
  | i s m =>
    obtain ⟨s0, s1, m0, m1⟩ := ow
    refine sif_no (tg "pieces" rfl (decide_eq_false (show ¬ (("idle" : Str) = ("pieces" : Str)) by decide))) (sif_yes (tg "idle" rfl (decide_eq_true rfl)) (ret_go (make0_go (ea_cons (ev_at (w := .i s m) (k := 1) rfl rfl) (ea_cons (ev_at (w := .i s m) (k := 2) rfl rfl) ea_nil)) rfl fun p np => ⟨p, .int s, .int m, rfl, put_same, .inl ⟨s, m, rfl, rfl, s0, by rw [p30']; omega, m0, by rw [p30']; omega, rfl, ?_⟩⟩)))
    rw [put_put]
    exact dn_self (q p np)
  | k x y z =>
    obtain ⟨x0, x1, y0, y1, z0, z1⟩ := ow
    have ex : ((x.toNat : Nat) : Int) = x := Int.toNat_of_nonneg (by omega)
    have ey : ((y.toNat : Nat) : Int) = y := Int.toNat_of_nonneg (by omega)
    refine sif_no (tg "pieces" rfl (decide_eq_false (show ¬ (("kept" : Str) = ("pieces" : Str)) by decide))) (sif_no (tg "idle" rfl (decide_eq_false (show ¬ (("kept" : Str) = ("idle" : Str)) by decide))) (sif_yes (tg "kept" rfl (decide_eq_true rfl)) (ret_go (make0_go (ea_cons (ev_at (w := .k x y z) (k := 1) rfl rfl) (ea_cons (ev_at (w := .k x y z) (k := 2) rfl rfl) (ea_cons (ev_at (w := .k x y z) (k := 3) rfl rfl) ea_nil))) rfl fun p np => ⟨p, .int x, .int y, .int z, rfl, put_same, .inl ⟨x.toNat, y.toNat, by rw [ex], by omega, by omega, by rw [ey], by omega, by omega, .inl ⟨z, rfl, z0, by omega, rfl, ?_⟩⟩⟩))))
    rw [put_put, ex, ey]
    exact dn_self (q p np)
  | both x y =>
    obtain ⟨ox, oy⟩ := ow
    have d' : max x.dep y.dep + 1 < n + 1 := dw
    refine sif_no (tg "pieces" rfl (decide_eq_false (show ¬ (("&" : Str) = ("pieces" : Str)) by decide))) (sif_no (tg "idle" rfl (decide_eq_false (show ¬ (("&" : Str) = ("idle" : Str)) by decide))) (sif_no (tg "kept" rfl (decide_eq_false (show ¬ (("&" : Str) = ("kept" : Str)) by decide))) ?_))
    refine spar_go (calls (ea_cons (ev_at (w := .both x y) (k := 1) rfl rfl) ea_nil) rfl ⟨x, rfl, by omega, ox, fun p np => frz_ins np ?_⟩)
    refine calls (ea_cons (ev_at (w := .both x y) (k := 2) rfl rfl) ea_nil) rfl ⟨y, rfl, by omega, oy, fun p2 np2 => frz_ins np2 ?_⟩
    rw [← wiT_eq, ← wiT_eq]
    exact ret_go (if_goT (tg "&" rfl (decide_eq_true rfl)) (op_go (ev_var rfl _ (ev_var rfl _ (ownM_go ⟨x, y, rfl, fun p np => dn_self (q p np)⟩)))))
  | either x y =>
    obtain ⟨ox, oy⟩ := ow
    have d' : max x.dep y.dep + 1 < n + 1 := dw
    refine sif_no (tg "pieces" rfl (decide_eq_false (show ¬ (("|" : Str) = ("pieces" : Str)) by decide))) (sif_no (tg "idle" rfl (decide_eq_false (show ¬ (("|" : Str) = ("idle" : Str)) by decide))) (sif_no (tg "kept" rfl (decide_eq_false (show ¬ (("|" : Str) = ("kept" : Str)) by decide))) ?_))
    refine spar_go (calls (ea_cons (ev_at (w := .either x y) (k := 1) rfl rfl) ea_nil) rfl ⟨x, rfl, by omega, ox, fun p np => frz_ins np ?_⟩)
    refine calls (ea_cons (ev_at (w := .either x y) (k := 2) rfl rfl) ea_nil) rfl ⟨y, rfl, by omega, oy, fun p2 np2 => frz_ins np2 ?_⟩
    rw [← wiT_eq, ← wiT_eq]
    exact ret_go (if_goF (tg "&" rfl (decide_eq_false (show ¬ (("|" : Str) = ("&" : Str)) by decide))) (op_go (ev_var rfl _ (ev_var rfl _ (ownM_go ⟨x, y, rfl, fun p np => dn_self (q p np)⟩)))))
theorem pl_law_met (Z : Tx K mg a) (n : Nat) : ∀ ts h Q E, ts.length = 2 → C_law_met a (n + 1) ts h Q E → B_law_met K a n (ends Q E) (startT N_law_met.length ts) h := by
  rintro ts h Q E - ⟨w, B, f, r, t, b, rfl, dw, ow, hB, o, q⟩
  unfold B_law_met
  have tg : ∀ {s : Sl} (z : String), s[0]? = some (some (trT w)) → ∀ {b : Bool}, decide (tag w = (z : Str)) = b → Ef s h (ends Q E).ex b (tOf (eOp oEq (eOp oIx (eVar 0) (eC (.int 0))) (eC (.str (z : Str))))) := fun {s} z hi {b} e => ef_as (ef_tag hi z) e
  have sub : ∀ {x : Wi} {k : Nat} {s : Sl}, (trL w)[k]? = some (trT x) → x.dep < n → x.Ok → s[0]? = some (some (trT w)) → s[1]? = some (some B) → Ev s h (ends Q E).ex (eFrz (eCall 2 (C_law_met a n) (aCons (eOp oIx (eVar 0) (eC (.int (k : Nat)))) (aCons (eVar 1) aNil)))) (.bl (met f r t b x)) := fun {x k s} e d ox h0 h1 R rr => calls (ea_cons (ev_at h0 e) (ea_cons (ev_var h1) ea_nil)) rfl ⟨x, B, f, r, t, b, rfl, d, ox, hB, o, frz_B rr⟩
  cases w with
  | p s m =>
    obtain ⟨s0, s1, m0, m1⟩ := ow
    exact sif_yes (tg "pieces" rfl (decide_eq_true rfl)) (ret_ev (ev_le (ev_mp (ev_var rfl) (ev_at (w := .p s m) (k := 1) rfl rfl) hB o s0 s1) (ev_at (w := .p s m) (k := 2) rfl rfl)) (dn_self q))
  | i s m =>
    obtain ⟨s0, s1, m0, m1⟩ := ow
    exact sif_no (tg "pieces" rfl (decide_eq_false (show ¬ (("idle" : Str) = ("pieces" : Str)) by decide))) (sif_yes (tg "idle" rfl (decide_eq_true rfl)) (ret_ev (ev_le (ev_mi (ev_var rfl) (ev_at (w := .i s m) (k := 1) rfl rfl) hB o s0 s1) (ev_at (w := .i s m) (k := 2) rfl rfl)) (dn_self q)))
  | k x y z =>
    obtain ⟨x0, x1, y0, y1, z0, z1⟩ := ow
    exact sif_no (tg "pieces" rfl (decide_eq_false (show ¬ (("kept" : Str) = ("pieces" : Str)) by decide))) (sif_no (tg "idle" rfl (decide_eq_false (show ¬ (("kept" : Str) = ("idle" : Str)) by decide))) (sif_yes (tg "kept" rfl (decide_eq_true rfl)) (ret_ev (ev_ge (ev_nv (ev_var rfl) (ev_at (w := .k x y z) (k := 1) rfl rfl) (ev_at (w := .k x y z) (k := 2) rfl rfl) hB o x0 x1 y0 y1) (ev_at (w := .k x y z) (k := 3) rfl rfl)) (dn_self q))))
  | both x y =>
    obtain ⟨ox, oy⟩ := ow
    have d' : max x.dep y.dep + 1 < n + 1 := dw
    refine sif_no (tg "pieces" rfl (decide_eq_false (show ¬ (("&" : Str) = ("pieces" : Str)) by decide))) (sif_no (tg "idle" rfl (decide_eq_false (show ¬ (("&" : Str) = ("idle" : Str)) by decide))) (sif_no (tg "kept" rfl (decide_eq_false (show ¬ (("&" : Str) = ("kept" : Str)) by decide))) ?_))
    refine spar (sub (x := x) (k := 1) rfl (by omega) ox rfl rfl) (sub (x := y) (k := 2) rfl (by omega) oy rfl rfl) ?_
    exact ret_ev (ev_ifT (tg "&" rfl (decide_eq_true rfl)) (ev_andV (ev_var rfl) (ev_var rfl))) (dn_self q)
  | either x y =>
    obtain ⟨ox, oy⟩ := ow
    have d' : max x.dep y.dep + 1 < n + 1 := dw
    refine sif_no (tg "pieces" rfl (decide_eq_false (show ¬ (("|" : Str) = ("pieces" : Str)) by decide))) (sif_no (tg "idle" rfl (decide_eq_false (show ¬ (("|" : Str) = ("idle" : Str)) by decide))) (sif_no (tg "kept" rfl (decide_eq_false (show ¬ (("|" : Str) = ("kept" : Str)) by decide))) ?_))
    refine spar (sub (x := x) (k := 1) rfl (by omega) ox rfl rfl) (sub (x := y) (k := 2) rfl (by omega) oy rfl rfl) ?_
    exact ret_ev (ev_ifF (tg "&" rfl (decide_eq_false (show ¬ (("|" : Str) = ("&" : Str)) by decide))) (ev_orV (ev_var rfl) (ev_var rfl))) (dn_self q)
end
end TL

set_option maxHeartbeats 1000000
namespace TL
open PySem L2
section
variable {K : PySem.W.Frag} {mg : Str → Option Value} {a : Ad}
theorem ev_inS9 {neg : Bool} {s : Sl} {h : Hq} {E : EX} {x y : EM} {z : Str} {zs : List Str} {b : Bool} (hx : Ev s h E x (.str z)) (hy : Ev s h E y (.tup (zs.map T.str))) (hb : (if neg then !(zs.any (· == z)) else zs.any (· == z)) = b) : Ev s h E (eOp (oInS neg) x y) (.bl b) := ev_op hx hy fun Q q => by
  have e : ∀ zs : List Str, strsOf (zs.map T.str) = some zs := fun zs => by
    induction zs with
    | nil => rfl
    | cons w ws ih =>
      rw [List.map_cons]
      unfold strsOf
      rw [ih]
  unfold oInS
  dsimp only
  rw [e]
  show Q (.bl (if neg = true then !zs.any fun x => x == z else zs.any fun x => x == z)) h
  rw [hb]
  exact q
def strT : T → Str
  | .str z => z
  | .int i => iS i
  | _ => Str.empty
theorem row_go {w : Wi} {s : Sl} {h : Hq} {E : EX} (hi : s = [some (trT w), none]) (l : (trL w).length ≤ 10) (ok : ∀ t ∈ trL w, (∃ z, t = .str z) ∨ ∃ i : Int, t = .int i ∧ -2 ≤ i ∧ i ≤ 400) : Ev s h E (eLc true (iSeq (eVar 0)) (cN 1 [1]) tYes (eCB oStrC (aCons (eVar 1) aNil))) (.lst ((trL w).map fun t => T.str (strT t))) := by
  subst hi
  refine ev_lcM (enc := id) (xs := trL w) (Eq1.ei (by rw [List.map_id]; exact eq_seq (ev_var rfl))) (by omega) fun t ht => ⟨[some (trT w), some t], rfl, ?_⟩
  rcases ok t ht with ⟨z, rfl⟩ | ⟨i, rfl, i0, i1⟩
  · exact ev_strSU (ev_var rfl)
  · exact ev_strIU (ev_var rfl) (log_small (by omega))
theorem lit1 : ("pieces" : Str) ++ (" " : Str) = ("pieces " : Str) := by decide +kernel
theorem lit2 : ("idle" : Str) ++ (" " : Str) = ("idle " : Str) := by decide +kernel
theorem lit3 : ("kept" : Str) ++ (" " : Str) = ("kept " : Str) := by decide +kernel
theorem lit4 : (" & " : Str) = (" " : Str) ++ ("&" : Str) ++ (" " : Str) := by decide +kernel
theorem lit5 : (" | " : Str) = (" " : Str) ++ ("|" : Str) ++ (" " : Str) := by decide +kernel
theorem join3 (x y z : Str) : Txt.join " " [x, y, z] = x ++ (" " : Str) ++ y ++ (" " : Str) ++ z := rfl
theorem join4 (x y z u : Str) : Txt.join " " [x, y, z, u] = x ++ (" " : Str) ++ y ++ (" " : Str) ++ z ++ (" " : Str) ++ u := rfl
theorem lim5 {n : Nat} (h : n ≤ 9000) : n ≤ lim := Nat.le_trans h (Nat.le_of_ble_eq_true rfl)
theorem two_no (z : String) (n1 : (z : Str) ≠ ("&" : Str)) (n2 : (z : Str) ≠ ("|" : Str)) : ([("&" : Str), ("|" : Str)].any (· == (z : Str))) = false := by
  rw [List.any_cons, List.any_cons, List.any_nil, Bool.or_false, Bool.or_eq_false_iff]
  exact ⟨beq_eq_false_iff_ne.mpr (Ne.symm n1), beq_eq_false_iff_ne.mpr (Ne.symm n2)⟩
theorem pl_law_text (Z : Tx K mg a) (n : Nat) : ∀ ts h Q E, ts.length = 1 → C_law_text (n + 1) ts h Q E → B_law_text K a n (ends Q E) (startT N_law_text.length ts) h := by
  rintro ts h Q E - ⟨w, rfl, dw, n4, ow, q⟩
  unfold B_law_text
  have lw := (txt_le ow (by omega)).1
  have leaf : ∀ (z : String), tag w = (z : Str) → (z : Str) ≠ ("&" : Str) → (z : Str) ≠ ("|" : Str) → (trL w).length ≤ 10 → (∀ t ∈ trL w, (∃ z, t = .str z) ∨ ∃ i : Int, t = .int i ∧ -2 ≤ i ∧ i ≤ 400) → (∀ t ∈ trL w, (strT t).length ≤ 10) → Txt.join " " ((trL w).map strT) = txt w →
      (sSeq (sIf (tOf (eOp (oInS true) (eOp oIx (eVar 0) (eC (.int 0))) (eC (.tup [.str "&", .str "|"])))) (sRet (eBM isSt oJoin (eC (.str " ")) (aCons (eLc true (iSeq (eVar 0)) (cN 1 [1]) tYes (eCB oStrC (aCons (eVar 1) aNil))) aNil))) sNext)
    (sRet (eOp (oAdd false) (eOp (oAdd true) (eOp (oAdd true) (eOp (oAdd true) (eOp (oAdd true) (eOp (oAdd true) (eC (.str "(")) (eFrz (eCall 1 (C_law_text n) (aCons (eOp oIx (eVar 0) (eC (.int 1))) aNil)))) (eC (.str " "))) (eOp oIx (eVar 0) (eC (.int 0)))) (eC (.str " "))) (eFrz (eCall 1 (C_law_text n) (aCons (eOp oIx (eVar 0) (eC (.int 2))) aNil)))) (eC (.str ")"))))) (ends Q E) (startT N_law_text.length [trT w]) h := fun z e n1 n2 l ok sl ej => by
    refine sif_yes (ef_of (ev_inS9 (zs := ["&", "|"]) (ev_tag rfl) ev_c (by rw [e, two_no z n1 n2]; rfl))) (ret_ev (ev_as (ev_joinU (ys := (trL w).map strT) ev_c (row_go rfl l ok) ?_ ?_) (congrArg T.str ej)) (dn_self q))
    · rw [List.map_map]
      rfl
    · have b : ∀ ts : List T, (∀ t ∈ ts, (strT t).length ≤ 10) → ((ts.map strT).map (·.length)).sum ≤ 10 * ts.length := fun ts => by
        induction ts with
        | nil => intro _; exact Nat.le_refl _
        | cons t ts ih =>
          intro hh
          have h1 := hh t List.mem_cons_self
          have h2 := ih fun t m => hh t (List.mem_cons_of_mem _ m)
          rw [List.map_cons, List.map_cons, List.sum_cons, List.length_cons]
          show (strT t).length + _ ≤ _
          omega
      have b1 := b _ sl
      rw [List.length_map, show (" " : Str).length = 1 from rfl, Nat.mul_one]
      omega
  have sh5 : ∀ {i : Int}, -2 ≤ i → i ≤ 400 → (iS i).length ≤ 10 := fun {i} h1 h2 => Nat.le_trans (iS_sh h1 h2).1 (by decide)
  have two : ∀ (x y : Wi) (z : String) (t : Str), trL w = [.str (z : Str), trT x, trT y] → tag w = (z : Str) → ([("&" : Str), ("|" : Str)].any (· == (z : Str))) = true → (z : Str).length = 1 → t = (" " : Str) ++ (z : Str) ++ (" " : Str) → txt w = ("(" : Str) ++ txt x ++ t ++ txt y ++ (")" : Str) → x.Ok → y.Ok → max x.dep y.dep + 1 < n + 1 →
      (sSeq (sIf (tOf (eOp (oInS true) (eOp oIx (eVar 0) (eC (.int 0))) (eC (.tup [.str "&", .str "|"])))) (sRet (eBM isSt oJoin (eC (.str " ")) (aCons (eLc true (iSeq (eVar 0)) (cN 1 [1]) tYes (eCB oStrC (aCons (eVar 1) aNil))) aNil))) sNext)
    (sRet (eOp (oAdd false) (eOp (oAdd true) (eOp (oAdd true) (eOp (oAdd true) (eOp (oAdd true) (eOp (oAdd true) (eC (.str "(")) (eFrz (eCall 1 (C_law_text n) (aCons (eOp oIx (eVar 0) (eC (.int 1))) aNil)))) (eC (.str " "))) (eOp oIx (eVar 0) (eC (.int 0)))) (eC (.str " "))) (eFrz (eCall 1 (C_law_text n) (aCons (eOp oIx (eVar 0) (eC (.int 2))) aNil)))) (eC (.str ")"))))) (ends Q E) (startT N_law_text.length [trT w]) h := fun x y z t el et ha lz ett ew ox oy d' => by
    have lx := (txt_le ox (by omega)).1
    have ly := (txt_le oy (by omega)).1
    have l1 : ("(" : Str).length = 1 := rfl
    have l2 : (" " : Str).length = 1 := rfl
    have l3 : (")" : Str).length = 1 := rfl
    refine sif_no (ef_of (ev_inS9 (zs := ["&", "|"]) (ev_tag rfl) ev_c (by rw [et, ha]; rfl))) ?_
    have sub : ∀ {k : Nat} {u : Wi}, (trL w)[k]? = some (trT u) → u.dep < n → u.Ok → Ev (startT N_law_text.length [trT w]) h (ends Q E).ex (eFrz (eCall 1 (C_law_text n) (aCons (eOp oIx (eVar 0) (eC (.int (k : Nat)))) aNil))) (.str (txt u)) := fun {k u} e d o R rr => calls (ea_cons (ev_at rfl e) ea_nil) rfl ⟨u, rfl, d, by omega, o, show frzK R (.str (txt u)) h from rr⟩
    refine ret_ev (ev_as (ev_catU (ev_catU (ev_catU (ev_catU (ev_catU (ev_catU ev_c (sub (k := 1) (u := x) (by rw [el]; rfl) (by omega) ox) ?_) ev_c ?_) (ev_as (ev_tag (w := w) rfl) (congrArg T.str et)) ?_) ev_c ?_) (sub (k := 2) (u := y) (by rw [el]; rfl) (by omega) oy) ?_) ev_c ?_) ?_) (dn_self q)
    · exact lim5 (by omega)
    · rw [len_app]; exact lim5 (by omega)
    · rw [len_app, len_app]; exact lim5 (by omega)
    · rw [len_app, len_app, len_app]; exact lim5 (by omega)
    · rw [len_app, len_app, len_app, len_app]; exact lim5 (by omega)
    · rw [len_app, len_app, len_app, len_app, len_app]; exact lim5 (by omega)
    · rw [ew, ett]
      simp only [app_as]
  cases w with
  | p s m =>
    obtain ⟨s0, s1, m0, m1⟩ := ow
    refine leaf "pieces" rfl (by decide) (by decide) (Nat.le_of_ble_eq_true rfl) (fun t ht => ?_) (fun t ht => ?_) ?_
    · rcases List.mem_cons.mp ht with rfl | ht
      · exact .inl ⟨_, rfl⟩
      · rcases List.mem_cons.mp ht with rfl | ht
        · exact .inr ⟨s, rfl, by omega, by omega⟩
        · rw [List.mem_singleton.mp ht]; exact .inr ⟨m, rfl, by omega, by omega⟩
    · rcases List.mem_cons.mp ht with rfl | ht
      · exact (by decide : ("pieces" : Str).length ≤ 10)
      · rcases List.mem_cons.mp ht with rfl | ht
        · exact sh5 (by omega) (by omega)
        · rw [List.mem_singleton.mp ht]; exact sh5 (by omega) (by omega)
    · show Txt.join " " [("pieces" : Str), iS s, iS m] = ("pieces " : Str) ++ iS s ++ (" " : Str) ++ iS m
      rw [join3, lit1]
  | i s m =>
    obtain ⟨s0, s1, m0, m1⟩ := ow
    refine leaf "idle" rfl (by decide) (by decide) (Nat.le_of_ble_eq_true rfl) (fun t ht => ?_) (fun t ht => ?_) ?_
    · rcases List.mem_cons.mp ht with rfl | ht
      · exact .inl ⟨_, rfl⟩
      · rcases List.mem_cons.mp ht with rfl | ht
        · exact .inr ⟨s, rfl, by omega, by omega⟩
        · rw [List.mem_singleton.mp ht]; exact .inr ⟨m, rfl, by omega, by omega⟩
    · rcases List.mem_cons.mp ht with rfl | ht
      · exact (by decide : ("idle" : Str).length ≤ 10)
      · rcases List.mem_cons.mp ht with rfl | ht
        · exact sh5 (by omega) (by omega)
        · rw [List.mem_singleton.mp ht]; exact sh5 (by omega) (by omega)
    · show Txt.join " " [("idle" : Str), iS s, iS m] = ("idle " : Str) ++ iS s ++ (" " : Str) ++ iS m
      rw [join3, lit2]
  | k x y z =>
    obtain ⟨x0, x1, y0, y1, z0, z1⟩ := ow
    refine leaf "kept" rfl (by decide) (by decide) (Nat.le_of_ble_eq_true rfl) (fun t ht => ?_) (fun t ht => ?_) ?_
    · rcases List.mem_cons.mp ht with rfl | ht
      · exact .inl ⟨_, rfl⟩
      · rcases List.mem_cons.mp ht with rfl | ht
        · exact .inr ⟨x, rfl, by omega, by omega⟩
        · rcases List.mem_cons.mp ht with rfl | ht
          · exact .inr ⟨y, rfl, by omega, by omega⟩
          · rw [List.mem_singleton.mp ht]; exact .inr ⟨z, rfl, by omega, by omega⟩
    · rcases List.mem_cons.mp ht with rfl | ht
      · exact (by decide : ("kept" : Str).length ≤ 10)
      · rcases List.mem_cons.mp ht with rfl | ht
        · exact sh5 (by omega) (by omega)
        · rcases List.mem_cons.mp ht with rfl | ht
          · exact sh5 (by omega) (by omega)
          · rw [List.mem_singleton.mp ht]; exact sh5 (by omega) (by omega)
    · show Txt.join " " [("kept" : Str), iS x, iS y, iS z] = ("kept " : Str) ++ iS x ++ (" " : Str) ++ iS y ++ (" " : Str) ++ iS z
      rw [join4, lit3]
  | both x y =>
    obtain ⟨ox, oy⟩ := ow
    exact two x y "&" " & " rfl rfl (by decide +kernel) (by decide +kernel) lit4 rfl ox oy dw
  | either x y =>
    obtain ⟨ox, oy⟩ := ow
    exact two x y "|" " | " rfl rfl (by decide +kernel) (by decide +kernel) lit5 rfl ox oy dw
theorem pl8_kd {h : Hq} {u : T} (p : pl8 u = true) : ∃ k, kdOf h u = some k := by
  cases u <;> first | exact ⟨_, rfl⟩ | cases p
theorem isInt_of {x : T} {l m : Int} (e : isInt x l m = true) : ∃ i, x = .int i ∧ l ≤ i ∧ i ≤ m := by
  cases x with
  | int i =>
    have e' : (decide (l ≤ i) && decide (i ≤ m)) = true := e
    rw [Bool.and_eq_true] at e'
    exact ⟨i, rfl, of_decide_eq_true e'.1, of_decide_eq_true e'.2⟩
  | _ => cases e
theorem ev_l {i k : Nat} {us : List T} {t : T} {s : Sl} {h : Hq} {E : EX} (hi : s[i]? = some (some (.lst us))) (e : us[k]? = some t) : Ev s h E (eOp oIx (eVar i) (eC (.int (k : Nat)))) t := ev_ixL (x := .lst us) (ts := us) (ev_var hi) ev_c rfl (atI_nat' e)
theorem make0F_go {C : Addr} {n : Nat} {c : Con} {ma : AM} {vs : List T} {s : Sl} {h : Hq} {E : EX} {Q : TK} (hm : Ea s h E ma vs) (l : vs.length = n) (q : ∀ p, h p = none → c (.ref p :: (vs ++ [])) (put h p (.ins C [])) (fun v h3 => v = .non ∧ frzK Q (.ref p) h3) fun y h3 => E y s h3) : eFrz (eMake C n 0 c ma aNil) s h Q E := make0_go (Q := frzK Q) hm l q
theorem pl_law_refused (Z : Tx K mg a) : ∀ ts h Q E, ts.length = 2 → C_law_refused a ts h Q E → B_law_refused K a (ends Q E) (startT N_law_refused.length ts) h := by
  rintro ts h Q E - ⟨d, us, u, z, rfl, bw, hz, q⟩
  unfold B_law_refused
  refine stry_go ?_
  have tell : ∀ {D : En} (h2 : Hq), (∀ x o, h x = some o → h2 x = some o) → (∀ v hh, D.rt v hh = (ends Q E).rt v hh) → exTry K (.ref a.c_GrowError) 2 (fun ea ecls ed => (sRet (eAndV (eCB (oIsE K ea ecls ed) (aCons (eVar 2) (aCons (eC (.ref a.c_InvalidNumber)) aNil))) (eAndV (eNotV (eCB (oIsE K ea ecls ed) (aCons (eVar 2) (aCons (eC (.ref a.c_InvalidChoice)) aNil)))) (eCB oRepr (aCons (eXf K ea ecls ed "number" (eVar 2)) aNil)))))) D (badN a u) (startT N_law_refused.length [.int d, .lst us]) h2 := fun {D} h2 sb hD => by
    refine ex_try Z.m_InvalidNumber_GrowError fun ea ed na => ?_
    refine ret_ev (ev_andT (ev_isE (ev_var rfl) Z.q_InvalidNumber Z.k_InvalidNumber_InvalidNumber) (ev_andT (ev_notV (ev_isE (ev_var rfl) Z.q_InvalidNumber Z.k_InvalidNumber_InvalidChoice)) (ev_repr (ev_xf (ev_var rfl) Z.x_InvalidNumber Z.n_InvalidNumber (lkc _ _ _)) hz))) ?_
    show D.rt (.str z) h2
    rw [hD]
    exact ⟨h, sb, q⟩
  rcases bw with ⟨hd, x, y, rfl, px, py, hb⟩ | ⟨rfl, x, y, w, rfl, px, py, pw, hb⟩
  · obtain ⟨kx, hkx⟩ := pl8_kd (h := h) px
    obtain ⟨ky, hky⟩ := pl8_kd (h := h) py
    rcases hd with rfl | rfl
    · refine if_yes (ef_of (ev_as (ev_eqI (ev_var rfl) ev_c) rfl)) (drop_to (make0F_go (ea_cons (ev_l (us := [x, y]) (k := 0) rfl rfl) (ea_cons (ev_l (us := [x, y]) (k := 1) rfl rfl) ea_nil)) rfl fun p np => ⟨p, x, y, rfl, put_same, ?_⟩))
      rcases hb with ⟨b1, rfl⟩ | ⟨b1, b2, rfl⟩
      · obtain ⟨k, hk⟩ := pl8_kd (h := put h p (.ins a.c_FewPieces [])) px
        exact .inr (.inl ⟨k, hk, b1, tell _ (fun b o e => put_old np e) fun v hh => rfl⟩)
      · obtain ⟨i, rfl, i0, i1⟩ := isInt_of b1
        obtain ⟨k, hk⟩ := pl8_kd (h := put h p (.ins a.c_FewPieces [])) py
        exact .inr (.inr ⟨i, k, rfl, i0, i1, hk, b2, tell _ (fun b o e => put_old np e) fun v hh => rfl⟩)
    · refine if_else (ef_of (ev_as (ev_eqI (ev_var rfl) ev_c) rfl)) (if_yes (ef_of (ev_as (ev_eqI (ev_var rfl) ev_c) rfl)) (drop_to (make0F_go (ea_cons (ev_l (us := [x, y]) (k := 0) rfl rfl) (ea_cons (ev_l (us := [x, y]) (k := 1) rfl rfl) ea_nil)) rfl fun p np => ⟨p, x, y, rfl, put_same, ?_⟩)))
      rcases hb with ⟨b1, rfl⟩ | ⟨b1, b2, rfl⟩
      · obtain ⟨k, hk⟩ := pl8_kd (h := put h p (.ins a.c_LittleIdle [])) px
        exact .inr (.inl ⟨k, hk, b1, tell _ (fun b o e => put_old np e) fun v hh => rfl⟩)
      · obtain ⟨i, rfl, i0, i1⟩ := isInt_of b1
        obtain ⟨k, hk⟩ := pl8_kd (h := put h p (.ins a.c_LittleIdle [])) py
        exact .inr (.inr ⟨i, k, rfl, i0, i1, hk, b2, tell _ (fun b o e => put_old np e) fun v hh => rfl⟩)
  · refine if_else (ef_of (ev_as (ev_eqI (ev_var rfl) ev_c) rfl)) (if_else (ef_of (ev_as (ev_eqI (ev_var rfl) ev_c) rfl)) (drop_to (make0F_go (ea_cons (ev_l (us := [x, y, w]) (k := 0) rfl rfl) (ea_cons (ev_l (us := [x, y, w]) (k := 1) rfl rfl) (ea_cons (ev_l (us := [x, y, w]) (k := 2) rfl rfl) ea_nil))) rfl fun p np => ⟨p, x, y, w, rfl, put_same, ?_⟩)))
    have t9 := fun {D : En} (hD : ∀ v hh, D.rt v hh = (ends Q E).rt v hh) => tell (D := D) (put h p (.ins a.c_NoRefusal [])) (fun b o e => put_old np e) hD
    rcases hb with ⟨b1, rfl⟩ | ⟨b1, b2, rfl⟩ | ⟨b1, b2, b3, rfl⟩
    · obtain ⟨k, hk⟩ := pl8_kd (h := put h p (.ins a.c_NoRefusal [])) px
      exact .inr (.inr ⟨k, hk, b1, t9 fun v hh => rfl⟩)
    · obtain ⟨i, rfl, i0, i1⟩ := isInt_of b1
      obtain ⟨k, hk⟩ := pl8_kd (h := put h p (.ins a.c_NoRefusal [])) py
      exact .inr (.inl ⟨i.toNat, by rw [Int.toNat_of_nonneg (by omega)], by omega, by omega, k, hk, b2, t9 fun v hh => rfl⟩)
    · obtain ⟨i, rfl, i0, i1⟩ := isInt_of b1
      obtain ⟨j, rfl, j0, j1⟩ := isInt_of b2
      obtain ⟨k, hk⟩ := pl8_kd (h := put h p (.ins a.c_NoRefusal [])) pw
      exact .inl ⟨i.toNat, j.toNat, by rw [Int.toNat_of_nonneg (by omega)], by omega, by omega, by rw [Int.toNat_of_nonneg (by omega)], by omega, by omega, .inr ⟨k, hk, b3, t9 fun v hh => rfl⟩⟩
end
end TL

set_option maxHeartbeats 1000000
namespace TL
open PySem L2
section
variable {K : PySem.W.Frag} {mg : Str → Option Value} {a : Ad}
theorem ev_ref {d : Int} {us : List T} {u : T} {z : Str} {m e : EM} {s : Sl} {h : Hq} {E : EX} (hm : Ev s h E m (.int d)) (he : Ev s h E e (.lst us)) (b : badW d us u) (hz : reprT u = some z) : Ev s h E (eFrz (eCall 2 (C_law_refused a) (aCons m (aCons e aNil)))) (.str z) := fun R rr => calls (ea_cons hm (ea_cons he ea_nil)) rfl ⟨d, us, u, z, rfl, b, hz, show frzK R (.str z) h from rr⟩
theorem ef_ref {d : Int} {us : List T} {u : T} {z : Str} {m e r : EM} {s : Sl} {h : Hq} {E : EX} (hm : Ev s h E m (.int d)) (he : Ev s h E e (.lst us)) (hr : Ev s h E r u) (b : badW d us u) (hz : reprT u = some z) (oz : PyData.strOk z = true) : Ef s h E false (tOf (eOp oNe (eFrz (eCall 2 (C_law_refused a) (aCons m (aCons e aNil)))) (eCB oRepr (aCons r aNil)))) :=
  ef_of (ev_same (t := .str z) (n := 1) (ev_ref hm he b hz) (ev_repr hr hz) rfl oz)
def odds5 : List T := [.non, .bl true, .int (0 - 1), .str "1", .int ((10 ^ 30) + 1)]
def okZ (u : T) : Bool := match reprT u with
  | some z => PyData.strOk z
  | none => false
theorem okZ_ok {u : T} (e : okZ u = true) : ∃ z, reprT u = some z ∧ PyData.strOk z = true := by
  unfold okZ at e
  split at e
  · rename_i z ez
    exact ⟨z, ez, e⟩
  · cases e
theorem odds5_tab : (odds5.all fun o => pl8 o && !isInt o 0 (10 ^ 30) && !isInt o 1 300 && !isInt o 1 8 && !isInt o 0 300 && okZ o) = true := by decide +kernel
def five5 : List (List T × Int) := [([.int 0, .int 1, .int 1], 0), ([.int 301, .int 1, .int 1], 0), ([.int 7, .int 0, .int 1], 1), ([.int 7, .int 9, .int 1], 1), ([.int 7, .int 2, .int 301], 2)]
theorem small_repr {i : Int} (h1 : -2 ≤ i) (h2 : i ≤ 400) : ∃ z, reprT (.int i) = some z ∧ PyData.strOk z = true := ⟨_, repr_I (by omega), strOk_of _⟩
theorem five5_ok {q : List T × Int} (hq : q ∈ five5) : ∃ u z, badW 2 q.1 u ∧ atI q.1 q.2 = some u ∧ reprT u = some z ∧ PyData.strOk z = true := by
  have go : ∀ {x y w u : T} {i : Int}, pl8 x = true → pl8 y = true → pl8 w = true → ((isInt x 1 300 = false ∧ u = x) ∨ (isInt x 1 300 = true ∧ isInt y 1 8 = false ∧ u = y) ∨ (isInt x 1 300 = true ∧ isInt y 1 8 = true ∧ isInt w 0 300 = false ∧ u = w)) → atI [x, y, w] i = some u → (∃ z, reprT u = some z ∧ PyData.strOk z = true) → ∃ u z, badW 2 [x, y, w] u ∧ atI [x, y, w] i = some u ∧ reprT u = some z ∧ PyData.strOk z = true := fun {x y w u i} p1 p2 p3 b e ⟨z, hz, oz⟩ => ⟨u, z, .inr ⟨rfl, x, y, w, rfl, p1, p2, p3, b⟩, e, hz, oz⟩
  rcases List.mem_cons.mp hq with rfl | hq
  · exact go (u := .int 0) rfl rfl rfl (.inl ⟨by decide, rfl⟩) atI_0 (small_repr (by decide) (by decide))
  rcases List.mem_cons.mp hq with rfl | hq
  · exact go (u := .int 301) rfl rfl rfl (.inl ⟨by decide, rfl⟩) atI_0 (small_repr (by decide) (by decide))
  rcases List.mem_cons.mp hq with rfl | hq
  · exact go (u := .int 0) rfl rfl rfl (.inr (.inl ⟨by decide, by decide, rfl⟩)) atI_1 (small_repr (by decide) (by decide))
  rcases List.mem_cons.mp hq with rfl | hq
  · exact go (u := .int 9) rfl rfl rfl (.inr (.inl ⟨by decide, by decide, rfl⟩)) atI_1 (small_repr (by decide) (by decide))
  rw [List.mem_singleton.mp hq]
  exact go (u := .int 301) rfl rfl rfl (.inr (.inr ⟨by decide, by decide, by decide, rfl⟩)) atI_2 (small_repr (by decide) (by decide))
theorem g2_go9 {i1 i2 : Nat} {x1 x2 : T} {s : Sl} {h : Hq} {Q : SK} {E : EX} (q : Q ((s.set i1 (some x1)).set i2 (some x2)) h) : gTup 2 (gCons (gN i1) (gCons (gN i2) gNil)) (.tup [x1, x2]) s h Q E := ⟨rfl, rfl, q⟩
theorem pl_law_odd (Z : Tx K mg a) : ∀ ts h Q E, ts.length = 0 → C_law_odd ts h Q E → B_law_odd K a (ends Q E) (startT N_law_odd.length ts) h := by
  rintro ts h Q E - ⟨rfl, q⟩
  unfold B_law_odd
  refine sfor (ts := odds5) (eq_seq ev_c) (fun i s' h' => h' = h ∧ ∃ x0 x1 x2 x3, s' = [x0, x1, x2, x3]) ⟨rfl, _, _, _, _, rfl⟩ ?_ ?_
  · rintro s' h' ⟨rfl, x0, x1, x2, x3, rfl⟩
    refine sfor_map (enc := fun q : List T × Int => T.tup [.lst q.1, .int q.2]) (xs := five5) (eq_seq ev_c) (fun i s' h2 => h2 = h' ∧ ∃ x0 x1 x2 x3, s' = [x0, x1, x2, x3]) ⟨rfl, _, _, _, _, rfl⟩ ?_ ?_
    · rintro s2 h2 ⟨rfl, x0, x1, x2, x3, rfl⟩
      exact ret_ev ev_c (dn_self q)
    · rintro i q2 s2 h2 e2 ⟨rfl, x0, x1, x2, x3, rfl⟩
      obtain ⟨u, z, bw, eu, hz, oz⟩ := five5_ok (List.mem_of_getElem? e2)
      exact g2_go9 (if_to (ef_ref (u := u) ev_c (ev_var rfl) (ev_ixL (x := .lst q2.1) (ts := q2.1) (ev_var rfl) (ev_var rfl) rfl eu) bw hz oz) (fun z => nomatch z) fun _ => ⟨rfl, _, _, _, _, rfl⟩)
  · rintro i o s' h' eo ⟨rfl, x0, x1, x2, x3, rfl⟩
    have tb := List.all_eq_true.mp odds5_tab o (List.mem_of_getElem? eo)
    simp only [Bool.and_eq_true, Bool.not_eq_true'] at tb
    obtain ⟨⟨⟨⟨⟨po, b1⟩, b2⟩, b3⟩, b4⟩, oz⟩ := tb
    obtain ⟨z, hz, oz⟩ := okZ_ok oz
    have i7 : isInt (.int 7) 0 (10 ^ 30) = true := by decide
    have l3 : ∀ {n : Nat}, n ≤ 10 → n ≤ lim := fun {n} hn => Nat.le_trans hn (Nat.le_of_ble_eq_true rfl)
    refine gN_go ?_
    refine sfor_rng (n := 2) (eq_rng ev_c (by decide)) (fun j s2 h2 => h2 = h' ∧ ∃ x1 x2 x3, s2 = [some o, x1, x2, x3]) ⟨rfl, _, _, _, rfl⟩ ?_ ?_
    · rintro s2 h2 ⟨rfl, x1, x2, x3, rfl⟩
      refine sif_no (ef_or (ef_ref (u := o) (us := [o, .non, .non]) ev_c (ev_lstT (ea_cons (ev_var rfl) (ea_cons ev_c (ea_cons ev_c ea_nil))) (l3 (Nat.le_of_ble_eq_true rfl))) (ev_var rfl) (.inr ⟨rfl, o, .non, .non, rfl, po, rfl, rfl, .inl ⟨b2, rfl⟩⟩) hz oz) (ef_ref (u := o) (us := [.int 7, o, .non]) ev_c (ev_lstT (ea_cons ev_c (ea_cons (ev_var rfl) (ea_cons ev_c ea_nil))) (l3 (Nat.le_of_ble_eq_true rfl))) (ev_var rfl) (.inr ⟨rfl, .int 7, o, .non, rfl, rfl, po, rfl, .inr (.inl ⟨by decide, b3, rfl⟩)⟩) hz oz)) ?_
      exact if_to (ef_ref (u := o) (us := [.int 7, .int 2, o]) ev_c (ev_lstT (ea_cons ev_c (ea_cons ev_c (ea_cons (ev_var rfl) ea_nil))) (l3 (Nat.le_of_ble_eq_true rfl))) (ev_var rfl) (.inr ⟨rfl, .int 7, .int 2, o, rfl, rfl, rfl, po, .inr (.inr ⟨by decide, by decide, b4, rfl⟩)⟩) hz oz) (fun z => nomatch z) fun _ => ⟨rfl, _, _, _, _, rfl⟩
    · rintro j s2 h2 hj ⟨rfl, x1, x2, x3, rfl⟩
      have d01 : (0 + (j : Int) = 0 ∨ 0 + (j : Int) = 1) := by omega
      refine gN_go (if_to (ef_or (ef_ref (u := o) (us := [o, .non]) (ev_var rfl) (ev_lstT (ea_cons (ev_var rfl) (ea_cons ev_c ea_nil)) (l3 (Nat.le_of_ble_eq_true rfl))) (ev_var rfl) (.inl ⟨d01, o, .non, rfl, po, rfl, .inl ⟨b1, rfl⟩⟩) hz oz) (ef_ref (u := o) (us := [.int 7, o]) (ev_var rfl) (ev_lstT (ea_cons ev_c (ea_cons (ev_var rfl) ea_nil)) (l3 (Nat.le_of_ble_eq_true rfl))) (ev_var rfl) (.inl ⟨d01, .int 7, o, rfl, rfl, po, .inr ⟨i7, b1, rfl⟩⟩) hz oz)) (fun z => nomatch z) fun _ => ⟨rfl, _, _, _, rfl⟩)
theorem lsR9 {h : Hq} {p : Addr} {xs : List T} (hp : h p = some (.lst xs)) : lsOf h (.ref p) = some xs := by
  unfold lsOf
  dsimp only
  rw [hp]
theorem ownS_go {c : Con} {x : Wi} {z : Str} {h : Hq} {Q : TK} (q : c [wiT a x, .str z] h Q fun _ _ => False) : oOwnS (fam_cs a) c (wiT a x) (.str z) h Q := by
  unfold oOwnS
  rw [ins_w]
  exact ⟨w_fam x, q⟩
theorem frz_w {Q : TK} {p : Addr} {w : Wi} {h : Hq} (np : h p = none) (q : Q (wiT a w) h) : frzK Q (.ref p) (put h p (.ins (wiC a w) (wiF a w))) := frz_ins np (by rw [← wiT_eq]; exact q)
theorem pl_law (Z : Tx K mg a) : ∀ ts h Q E, ts.length = 1 → C_law ts h Q E → B_law K a (ends Q E) (startT N_law.length ts) h := by
  rintro ts h Q E - ⟨ns, rfl, hn, q⟩
  unfold B_law
  obtain ⟨mm, m4, em⟩ := cells_eq ns 4 (by decide) (by decide) (s := startT N_law.length [.scr ns]) (h := h) (E := (ends Q E).ex) (i := 0) rfl
  refine sfor_rng em (fun i s h' => ∃ x1 x2 x3 x4 x5 x6 x7 x8 x9 x10 x11, s = [some (.scr ns), x1, x2, x3, x4, x5, x6, x7, x8, x9, x10, x11]) ⟨_, _, _, _, _, _, _, _, _, _, _, rfl⟩ ?_ ?_
  · rintro s h' ⟨x1, x2, x3, x4, x5, x6, x7, x8, x9, x10, x11, rfl⟩
    exact ret_ev ev_c (dn_self (q _))
  rintro k s h' hk ⟨x1, x2, x3, x4, x5, x6, x7, x8, x9, x10, x11, rfl⟩
  refine gN_go (set_go (hand_go rfl rfl (by omega) (by omega) hn fun p np => ?_))
  have hp : put h' p .pool p = some .pool := put_same
  clear np
  generalize put h' p .pool = h1 at *
  refine set_go (call_go (ac_any (calls (ea_cons (ev_var rfl) ea_nil) rfl ⟨p, rfl, hp, fun f r t b o u1 u2 u3 u4 => frz_T (an_go ⟨rfl, f, r, t, b, rfl, o, fun B nB => frz_ins nB ?_⟩)⟩)))
  have hB : ∀ h : Hq, Bk a h (.ins a.c_Book (bkF f r t b)) f r t b := fun h => rfl
  refine set_go ?_
  unfold eLst
  refine ac_any (calls (ea_cons (ev_var rfl) (ea_cons ev_c ea_nil)) rfl ⟨p, 2, rfl, hp, by decide, fun w0 d0 o0 l0 n0 => frz_lst n0 ?_⟩)
  refine ac_any (call_go (ac_ev (ev_var rfl) (ac_any (draw_go rfl ev_c hp (by decide) (by decide) fun dd dd0 dd1 => an_go ⟨rfl, p, dd.toNat, by rw [Int.toNat_of_nonneg dd0], hp, by omega, fun w1 d1' o1 l1 n1 => frz_lst n1 (an_go ⟨Nat.le_of_ble_eq_true rfl, ?_⟩)⟩))))
  have d1 : w1.dep ≤ 2 := by omega
  rw [mk_false]
  intro L nL
  have hL1 : put h1 L (.lst [trT w0, trT w1]) L = some (.lst [trT w0, trT w1]) := put_same
  have o2 : (Wi.both w0 w1).Ok := ⟨o0, o1⟩
  have d2 : (Wi.both w0 w1).dep ≤ 3 := show max w0.dep w1.dep + 1 ≤ 3 by omega
  refine drop_go (app_go (v := trT (.both w0 w1)) rfl hL1 (Nat.lt_of_lt_of_le (show 2 < 3 by decide) (Nat.le_of_ble_eq_true rfl)) (ev_lstT (ea_cons ev_c (ea_cons (ev_ixL (x := .ref L) (ev_var rfl) ev_c (lsR9 hL1) atI_0) (ea_cons (ev_ixL (x := .ref L) (ev_var rfl) ev_c (lsR9 hL1) atI_1) ea_nil))) (Nat.le_of_ble_eq_true rfl)) ?_)
  rw [put_put]
  have hL : put h1 L (.lst ([trT w0, trT w1] ++ [trT (.both w0 w1)])) L = some (.lst ([w0, w1, .both w0 w1].map trT)) := put_same
  clear hL1 nL hp
  generalize put h1 L (.lst ([trT w0, trT w1] ++ [trT (.both w0 w1)])) = h2 at *
  have ws_ok : ∀ w ∈ [w0, w1, .both w0 w1], w.Ok ∧ w.dep ≤ 3 := fun w hw => by
    rcases List.mem_cons.mp hw with rfl | hw
    · exact ⟨o0, by omega⟩
    rcases List.mem_cons.mp hw with rfl | hw
    · exact ⟨o1, by omega⟩
    rw [List.mem_singleton.mp hw]
    exact ⟨o2, d2⟩
  have lw : [w0, w1, Wi.both w0 w1].length = 3 := rfl
  have e0 : [w0, w1, Wi.both w0 w1][0]? = some w0 := rfl
  have e1 : [w0, w1, Wi.both w0 w1][1]? = some w1 := rfl
  generalize [w0, w1, Wi.both w0 w1] = ws at *
  refine set_ev (v := .lst (ws.map (wiT a))) (ev_lcM (enc := trT) (xs := ws) (f := wiT a) (ei_seqR (ev_var rfl) hL) (by omega) fun w hw => ⟨_, rfl, fun R rr => calls (ea_cons (ev_var rfl) ea_nil) rfl ⟨w, rfl, by have := (ws_ok w hw).2; omega, (ws_ok w hw).1, fun p np => frz_w np rr⟩⟩) ?_
  have tr : ∀ {S : Sl} {E' : EX} {j : Nat} {w : Wi} {m : EM}, S[4]? = some (some (.ref L)) → ws[j]? = some w → Ev S h2 E' m (.int (j : Nat)) → Ev S h2 E' (eOp oIx (eVar 4) m) (trT w) := fun {S E' j w m} h4 e hm => ev_ixL (x := .ref L) (ev_var h4) hm (lsR9 hL) (atI_nat' (by rw [List.getElem?_map, e]; rfl))
  have wi : ∀ {S : Sl} {E' : EX} {j : Nat} {w : Wi} {m : EM}, S[5]? = some (some (.lst (ws.map (wiT a)))) → ws[j]? = some w → Ev S h2 E' m (.int (j : Nat)) → Ev S h2 E' (eOp oIx (eVar 5) m) (wiT a w) := fun {S E' j w m} h5 e hm => ev_ixL (x := .lst (ws.map (wiT a))) (ev_var h5) hm rfl (atI_nat' (by rw [List.getElem?_map, e]; rfl))
  have tx : ∀ {S : Sl} {E' : EX} {w : Wi} {m : EM}, w.Ok → w.dep ≤ 3 → Ev S h2 E' m (trT w) → Ev S h2 E' (eFrz (eCall 1 (C_law_text 4) (aCons m aNil))) (.str (txt w)) := fun {S E' w m} ow dw hm R rr => calls (ea_cons hm ea_nil) rfl ⟨w, rfl, by omega, by decide, ow, show frzK R (.str (txt w)) h2 from rr⟩
  refine sfor_rng (n := 3) (eq_rng ev_c (by decide)) (fun i s h' => h' = h2 ∧ ∃ x6 x7 x8 x9 x10 x11, s = [some (.scr ns), some (.int (0 + k)), some (.ref p), some (.ins a.c_Book (bkF f r t b)), some (.ref L), some (.lst (ws.map (wiT a))), x6, x7, x8, x9, x10, x11]) ⟨rfl, _, _, _, _, _, _, rfl⟩ ?_ ?_
  · rintro s h3 ⟨rfl, x6, x7, x8, x9, x10, x11, rfl⟩
    have w0o := ws_ok w0 (List.mem_of_getElem? e0)
    have w1o := ws_ok w1 (List.mem_of_getElem? e1)
    refine set_go (op_go (wi (j := 0) rfl e0 ev_c _ (wi (j := 1) rfl e1 ev_c _ (ownM_go ⟨w0, w1, rfl, fun pe ne => frz_w (w := .either w0 w1) ne ?_⟩))))
    have oe : (Wi.either w0 w1).Ok := ⟨w0o.1, w1o.1⟩
    have de : (Wi.either w0 w1).dep ≤ 4 := show max w0.dep w1.dep + 1 ≤ 4 by omega
    refine if_to (b := false) (ef_or (ef_of (ev_selfN (t := .bl (met f r t b (.either w0 w1))) (n := 1) (ev_ask (w := .either w0 w1) (ev_var rfl) (ev_var rfl) de oe (hB _) o) (ev_orV (ev_ask (wi (j := 0) rfl e0 ev_c) (ev_var rfl) (by omega) w0o.1 (hB _) o) (ev_ask (wi (j := 1) rfl e1 ev_c) (ev_var rfl) (by omega) w1o.1 (hB _) o)) rfl)) (ef_as (ef_not (ef_tru (b := true) fun R rr => calls ea_nil rfl ⟨rfl, frz_B rr⟩)) rfl)) (fun z => nomatch z) fun _ => ⟨_, _, _, _, _, _, _, _, _, _, _, rfl⟩
  · rintro i s h3 hi ⟨rfl, x6, x7, x8, x9, x10, x11, rfl⟩
    obtain ⟨w, ew⟩ : ∃ w, ws[i]? = some w := ⟨_, List.getElem?_eq_getElem (by omega)⟩
    obtain ⟨ow, dw⟩ := ws_ok w (List.mem_of_getElem? ew)
    rw [Int.zero_add]
    refine gN_go (set_ev (ev_ask (wi rfl ew (ev_var rfl)) (ev_var rfl) (by omega) ow (hB _) o) ?_)
    refine sif_no (ef_or (ef_as (ef_not (ef_tru (ev_isi (x := .bl (met f r t b w)) (k := .bl) (c := .bl) (ev_var rfl) rfl (by decide)))) rfl) (ef_or (ef_of (ev_selfN (t := .bl (met f r t b w)) (n := 1) (ev_var rfl) (fun R rr => calls (ea_cons (tr rfl ew (ev_var rfl)) (ea_cons (ev_var rfl) ea_nil)) rfl ⟨w, _, f, r, t, b, rfl, by omega, ow, hB _, o, frz_B rr⟩) rfl)) (ef_as (ef_not (ef_tru (ev_isW Z (wi rfl ew (ev_var rfl))))) rfl))) ?_
    have tw := fun {S : Sl} {E' : EX} (h4 : S[4]? = some (some (.ref L))) (h7 : S[7]? = some (some (.int (i : Nat)))) => tx (S := S) (E' := E') ow dw (tr h4 ew (ev_var h7))
    refine sif_no (ef_or (ef_of (ev_same (t := .str (txt w)) (n := 1) (ev_shown (wi rfl ew (ev_var rfl)) (by omega) (by omega) ow) (tw rfl rfl) rfl (txt_le ow (by omega)).2)) (ef_of (ev_op (wi rfl ew (ev_var rfl)) (tw rfl rfl) fun Q q => ownS_go (.inr ⟨w, txt w, rfl, q⟩)))) ?_
    refine for_rng (n := 3) (eq_rng ev_c (by decide)) (fun j s h' => h' = h3 ∧ ∃ x6 x8 x9 x10 x11, s = [some (.scr ns), some (.int (0 + k)), some (.ref p), some (.ins a.c_Book (bkF f r t b)), some (.ref L), some (.lst (ws.map (wiT a))), x6, some (.int (i : Nat)), x8, x9, x10, x11]) ⟨rfl, _, _, _, _, _, rfl⟩ ?_ ?_
    · rintro s h4 ⟨rfl, x6, x8, x9, x10, x11, rfl⟩
      exact ⟨rfl, _, _, _, _, _, _, rfl⟩
    · rintro j s h4 hj ⟨rfl, x6, x8, x9, x10, x11, rfl⟩
      obtain ⟨v, evv⟩ : ∃ v, ws[j]? = some v := ⟨_, List.getElem?_eq_getElem (by omega)⟩
      obtain ⟨ov, dv⟩ := ws_ok v (List.mem_of_getElem? evv)
      rw [Int.zero_add]
      refine gN_go (set_ev (v := .bl (decide (txt w = txt v))) (ev_str (tw rfl rfl) (tx ov dv (tr rfl evv (ev_var rfl))) (txt_le ow (by omega)).2 (txt_le ov (by omega)).2 rfl) ?_)
      refine if_to (b := false) (ef_of (ev_selfN (t := .bl (decide (txt w = txt v))) (n := 1) (ev_op (wi rfl ew (ev_var rfl)) (wi rfl evv (ev_var rfl)) fun Q q => ownM_go (.inl ⟨w, v, rfl, ow, by omega, ov, by omega, q⟩)) (ev_var rfl) rfl)) (fun z => nomatch z) fun _ => ⟨rfl, _, _, _, _, _, rfl⟩
end
end TL

set_option maxHeartbeats 4000000
namespace TL
open PySem L2
section
variable {P : Program} {w : World} {K : PySem.W.Frag} {mg : Str → Option Value} {base : Heap} {a : Ad}
theorem sci_InvalidNumber : FnScope ["self", "number"] ["self", "number"] (defScope si_InvalidNumber) := ⟨rfl, rfl, rfl, by decide +kernel, rfl, by decide +kernel, by decide +kernel⟩
theorem okI_InvalidNumber (T : Tx K mg a) : FnOk P w K mg base (L2.CX P w) 1 a.i_InvalidNumber a.e_InvalidNumber ["self", "number"] (spInit a.c_InvalidNumber "number") := init_ok T.FI_InvalidNumber sci_InvalidNumber T.o_InvalidNumber T.n_InvalidNumber rfl (Or.inl rfl) (Or.inl rfl) (by decide) (by decide) (fun _ _ => rfl)
theorem sci_InvalidBook : FnScope ["self", "part"] ["self", "part"] (defScope si_InvalidBook) := ⟨rfl, rfl, rfl, by decide +kernel, rfl, by decide +kernel, by decide +kernel⟩
theorem okI_InvalidBook (T : Tx K mg a) : FnOk P w K mg base (L2.CX P w) 1 a.i_InvalidBook a.e_InvalidBook ["self", "part"] (spInit a.c_InvalidBook "part") := init_ok T.FI_InvalidBook sci_InvalidBook T.o_InvalidBook T.n_InvalidBook rfl (Or.inl rfl) (Or.inl rfl) (by decide) (by decide) (fun _ _ => rfl)
theorem sc_is_integer : FnScope N_is_integer ["thing", "least", "most"] (defScope s_is_integer) := ⟨rfl, rfl, rfl, by decide +kernel, rfl, by decide +kernel, by decide +kernel⟩
theorem ok_is_integer (T : Tx K mg a) : FnOk P w K mg base (L2N.CX P w) 1 a.f_is_integer a.d_is_integer ["thing", "least", "most"] (liftSp K 3 C_is_integer) := by
  refine fn_ok T.F_is_integer sc_is_integer (by decide) (fun cdv A outer s H E hr => ?_) pl_is_integer
  have tk : L2N.Takes (cxOf (L2N.CX P w) P w K mg base N_is_integer "is_integer" (defScope s_is_integer) a.f_is_integer cdv A outer s H E) (fun cls d _ H => E cls d H) := L2N.takes_of rfl rfl rfl rfl
  exact (jss_one (js_ret (j_and (j_cb call_isi c_isi rfl T.z_isinstance (by decide +kernel) (ja_cons (j_var 0) (ja_cons (j_ty rfl T.z_int (by decide +kernel)) ja_nil))) (j_and (j_not (j_cb call_isi c_isi rfl T.z_isinstance (by decide +kernel) (ja_cons (j_var 0) (ja_cons (j_ty rfl T.z_bool (by decide +kernel)) ja_nil)))) (j_one (j_chain op_le p_le op_le p_le (j_var 1) (j_var 0) (j_var 2)))))))
theorem sc_part_of : FnScope N_part_of ["share", "hold"] (defScope s_part_of) := ⟨rfl, rfl, rfl, by decide +kernel, rfl, by decide +kernel, by decide +kernel⟩
theorem ok_part_of (T : Tx K mg a) : FnOk P w K mg base (L2N.CX P w) 1 a.f_part_of a.d_part_of ["share", "hold"] (liftSp K 2 C_part_of) := by
  refine fn_ok T.F_part_of sc_part_of (by decide) (fun cdv A outer s H E hr => ?_) pl_part_of
  have tk : L2N.Takes (cxOf (L2N.CX P w) P w K mg base N_part_of "part_of" (defScope s_part_of) a.f_part_of cdv A outer s H E) (fun cls d _ H => E cls d H) := L2N.takes_of rfl rfl rfl rfl
  exact (jss_cons (js_asg (j_var 0) (jg_tup rfl (jgs_cons (jg_name (i := 2) sc_part_of.nd rfl (by first | exact Or.inl rfl | exact Or.inr rfl)) (jgs_cons (jg_name (i := 3) sc_part_of.nd rfl (by first | exact Or.inl rfl | exact Or.inr rfl)) jgs_nil))))
    (jss_one (js_ret (j_neg (j_op op_fdivW p_div (j_op o_mul (p_mul true) (j_neg (j_var 1)) (j_var 2)) (j_var 3))))))
theorem sc_Book_first : FnScope N_Book_first ["self"] (defScope s_Book_first) := ⟨rfl, rfl, rfl, by decide +kernel, rfl, by decide +kernel, by decide +kernel⟩
theorem ok_Book_first (T : Tx K mg a) : FnOk P w K mg base (L2N.CX P w) 1 a.f_Book_first a.d_Book_first ["self"] (liftSp K 1 (C_Book_first a)) := by
  refine fn_ok T.F_Book_first sc_Book_first (by decide) (fun cdv A outer s H E hr => ?_) (pl_Book_first T)
  have tk : L2N.Takes (cxOf (L2N.CX P w) P w K mg base N_Book_first "Book.first" (defScope s_Book_first) a.f_Book_first cdv A outer s H E) (fun cls d _ H => E cls d H) := L2N.takes_of rfl rfl rfl rfl
  exact (jss_one (js_ret (j_fld T.cl_Book T.na_Book_own_first (j_var 0))))
theorem sc_Book_roof : FnScope N_Book_roof ["self"] (defScope s_Book_roof) := ⟨rfl, rfl, rfl, by decide +kernel, rfl, by decide +kernel, by decide +kernel⟩
theorem ok_Book_roof (T : Tx K mg a) : FnOk P w K mg base (L2N.CX P w) 1 a.f_Book_roof a.d_Book_roof ["self"] (liftSp K 1 (C_Book_roof a)) := by
  refine fn_ok T.F_Book_roof sc_Book_roof (by decide) (fun cdv A outer s H E hr => ?_) (pl_Book_roof T)
  have tk : L2N.Takes (cxOf (L2N.CX P w) P w K mg base N_Book_roof "Book.roof" (defScope s_Book_roof) a.f_Book_roof cdv A outer s H E) (fun cls d _ H => E cls d H) := L2N.takes_of rfl rfl rfl rfl
  exact (jss_one (js_ret (j_fld T.cl_Book T.na_Book_own_roof (j_var 0))))
theorem sc_layers : FnScope N_layers ["choices", "blocks", "files"] (defScope s_layers) := ⟨rfl, rfl, rfl, by decide +kernel, rfl, by decide +kernel, by decide +kernel⟩
theorem ok_layers (T : Tx K mg a) : FnOk P w K mg base (L2N.CX P w) 1 a.f_layers a.d_layers ["choices", "blocks", "files"] (liftSp K 3 C_layers) := by
  refine fn_ok T.F_layers sc_layers (by decide) (fun cdv A outer s H E hr => ?_) pl_layers
  have tk : L2N.Takes (cxOf (L2N.CX P w) P w K mg base N_layers "layers" (defScope s_layers) a.f_layers cdv A outer s H E) (fun cls d _ H => E cls d H) := L2N.takes_of rfl rfl rfl rfl
  exact (jss_cons (js_set (i := 3) sc_layers.nd rfl (by first | exact Or.inl rfl | exact Or.inr rfl) (j_lst false (ja_cons (j_op o_mul (p_mul false) (j_pure (t := .lst [.non]) (j_lst true (ja_cons j_non ja_nil)) (pu_lst (pa_c pu_c pa_n) (by decide))) (j_op o_add (p_add true) (j_var 1) j_int)) ja_nil)))
    (jss_cons (js_asg (j_pure (t := .tup [.int 0, .non, .non]) (j_tup (ja_cons j_int (ja_cons j_non (ja_cons j_non ja_nil)))) (pu_tup (pa_c pu_c (pa_c pu_c (pa_c pu_c pa_n))) (by decide))) (jg_sub (j_ix (j_var 3) j_int) j_int))
    (jss_cons (js_for (passes_of rfl) rfl (ji_range1 rfl T.z_range (ja_cons (j_var 2) ja_nil)) (jg_name (i := 4) sc_layers.nd rfl (by first | exact Or.inl rfl | exact Or.inr rfl)) (jss_cons (js_set (i := 5) sc_layers.nd rfl (by first | exact Or.inl rfl | exact Or.inr rfl) (j_ix (j_var 3) (j_pure (t := .int (-1)) (j_neg j_int) (pu_neg pu_c))))
    (jss_cons (js_setLc false (i := 6) (own := [("best", 7)]) rfl sc_layers.nd rfl rfl (sw_true rfl rfl rfl (by decide +kernel)) (ct_name (by decide)) (ji_seq (j_var 5)) (blkOk_by (N := N_layers) (sc := (defScope s_layers)) (by decide +kernel)) (fun _ _ _ _ _ => (pg_name (i := 7) sc_layers.nd rfl (by first | exact Or.inl rfl | exact Or.inr rfl))) (fun _ _ _ _ _ => jts_nil) (fun _ _ _ _ _ => (j_if (jt_cmp op_isN p_isN (j_var 7) j_non (nomark _)) j_non (j_tup (ja_cons (j_ix (j_var 7) j_int) (ja_cons j_int (ja_cons j_non ja_nil)))))))
    (jss_cons (js_lk (js_for (passes_of rfl) rfl (ji_items (j_var 0)) (jg_tup rfl (jgs_cons (jg_name (i := 8) sc_layers.nd rfl (by first | exact Or.inl rfl | exact Or.inr rfl)) (jgs_cons (jg_tup rfl (jgs_cons (jg_name (i := 9) sc_layers.nd rfl (by first | exact Or.inl rfl | exact Or.inr rfl)) (jgs_cons (jg_name (i := 10) sc_layers.nd rfl (by first | exact Or.inl rfl | exact Or.inr rfl)) jgs_nil))) jgs_nil))) (jss_one (js_for (passes_of rfl) rfl (ji_range1 rfl T.z_range (ja_cons (j_op o_add (p_add true) (j_op op_sub p_sub (j_var 1) (j_var 8)) j_int) ja_nil)) (jg_name (i := 11) sc_layers.nd rfl (by first | exact Or.inl rfl | exact Or.inr rfl)) (jss_cons (js_set (i := 12) sc_layers.nd rfl (by first | exact Or.inl rfl | exact Or.inr rfl) (j_ix (j_var 5) (j_var 11)))
    (jss_cons (js_if (jt_cmp op_isN p_isN (j_var 12) j_non (nomark _)) (jss_one js_cont) jss_nil)
    (jss_cons (js_set (i := 13) sc_layers.nd rfl (by first | exact Or.inl rfl | exact Or.inr rfl) (j_ix (j_var 6) (j_op o_add (p_add true) (j_var 11) (j_var 8))))
    (jss_one (js_if (jt_w (jw_or (jt_cmp op_isN p_isN (j_var 13) j_non (nomark _)) (jw_or1 (jt_cmp op_lt p_lt (j_ix (j_var 13) j_int) (j_op o_add (p_add true) (j_ix (j_var 12) j_int) (j_var 9)) (nomark _))))) (jss_one (js_asg (j_tup (ja_cons (j_op o_add (p_add true) (j_ix (j_var 12) j_int) (j_var 9)) (ja_cons (j_var 8) (ja_cons (j_var 10) ja_nil)))) (jg_sub (j_var 6) (j_op o_add (p_add true) (j_var 11) (j_var 8))))) jss_nil)))))))))
    (jss_one (js_expr (j_bm PySem.F.plainAttrs_list PySem.F.slot_list_append PySem.F.type_list_append mt_append ty_list c_app (j_var 3) (ja_cons (j_var 6) ja_nil))))))))
    (jss_one (js_ret (j_var 3))))))
theorem sc_growths_at : FnScope N_growths_at ["found", "files", "held"] (defScope s_growths_at) := ⟨rfl, rfl, rfl, by decide +kernel, rfl, by decide +kernel, by decide +kernel⟩
theorem ok_growths_at (T : Tx K mg a) : FnOk P w K mg base (L2N.CX P w) 1 a.f_growths_at a.d_growths_at ["found", "files", "held"] (liftSp K 3 C_growths_at) := by
  refine fn_ok T.F_growths_at sc_growths_at (by decide) (fun cdv A outer s H E hr => ?_) pl_growths_at
  have tk : L2N.Takes (cxOf (L2N.CX P w) P w K mg base N_growths_at "growths_at" (defScope s_growths_at) a.f_growths_at cdv A outer s H E) (fun cls d _ H => E cls d H) := L2N.takes_of rfl rfl rfl rfl
  exact (jss_cons (js_set (i := 3) sc_growths_at.nd rfl (by first | exact Or.inl rfl | exact Or.inr rfl) (j_lst false ja_nil))
    (jss_cons (js_while (passes_of rfl) (jt_cmp op_gt p_gt (j_var 1) j_int (nomark _)) (jss_cons (js_asg (j_ix (j_ix (j_var 0) (j_var 1)) (j_var 2)) (jg_tup rfl (jgs_cons (jg_name (i := 4) sc_growths_at.nd rfl (by first | exact Or.inl rfl | exact Or.inr rfl)) (jgs_cons (jg_name (i := 5) sc_growths_at.nd rfl (by first | exact Or.inl rfl | exact Or.inr rfl)) (jgs_cons (jg_name (i := 6) sc_growths_at.nd rfl (by first | exact Or.inl rfl | exact Or.inr rfl)) jgs_nil)))))
    (jss_cons (js_if (jt_cmp op_notN p_notN (j_var 6) j_non (nomark _)) (jss_one (js_expr (j_bm PySem.F.plainAttrs_list PySem.F.slot_list_append PySem.F.type_list_append mt_append ty_list c_app (j_var 3) (ja_cons (j_var 6) ja_nil)))) jss_nil)
    (jss_cons (js_aug (i := 2) sc_growths_at.nd rfl (by first | exact Or.inl rfl | exact Or.inr rfl) (j_var 5) ip_sub p_isub)
    (jss_one (js_aug (i := 1) sc_growths_at.nd rfl (by first | exact Or.inl rfl | exact Or.inr rfl) j_int ip_sub p_isub))))))
    (jss_one (js_ret (j_var 3)))))
theorem sc_FewPieces_shown : FnScope N_FewPieces_shown ["self"] (defScope s_FewPieces_shown) := ⟨rfl, rfl, rfl, by decide +kernel, rfl, by decide +kernel, by decide +kernel⟩
theorem ok_FewPieces_shown (T : Tx K mg a) : FnOk P w K mg base (L2N.CX P w) 1 a.f_FewPieces_shown a.d_FewPieces_shown ["self"] (liftSp K 1 (C_FewPieces_shown a)) := by
  refine fn_ok T.F_FewPieces_shown sc_FewPieces_shown (by decide) (fun cdv A outer s H E hr => ?_) (pl_FewPieces_shown T)
  have tk : L2N.Takes (cxOf (L2N.CX P w) P w K mg base N_FewPieces_shown "FewPieces.shown" (defScope s_FewPieces_shown) a.f_FewPieces_shown cdv A outer s H E) (fun cls d _ H => E cls d H) := L2N.takes_of rfl rfl rfl rfl
  exact (jss_one (js_ret (j_js (pj_c j_str (pj_c (j_fmt (j_fld T.cl_FewPieces T.na_FewPieces_size (j_var 0))) (pj_c j_str (pj_c (j_fmt (j_fld T.cl_FewPieces T.na_FewPieces_most (j_var 0))) pj_n)))))))
theorem sc_LittleIdle_shown : FnScope N_LittleIdle_shown ["self"] (defScope s_LittleIdle_shown) := ⟨rfl, rfl, rfl, by decide +kernel, rfl, by decide +kernel, by decide +kernel⟩
theorem ok_LittleIdle_shown (T : Tx K mg a) : FnOk P w K mg base (L2N.CX P w) 1 a.f_LittleIdle_shown a.d_LittleIdle_shown ["self"] (liftSp K 1 (C_LittleIdle_shown a)) := by
  refine fn_ok T.F_LittleIdle_shown sc_LittleIdle_shown (by decide) (fun cdv A outer s H E hr => ?_) (pl_LittleIdle_shown T)
  have tk : L2N.Takes (cxOf (L2N.CX P w) P w K mg base N_LittleIdle_shown "LittleIdle.shown" (defScope s_LittleIdle_shown) a.f_LittleIdle_shown cdv A outer s H E) (fun cls d _ H => E cls d H) := L2N.takes_of rfl rfl rfl rfl
  exact (jss_one (js_ret (j_js (pj_c j_str (pj_c (j_fmt (j_fld T.cl_LittleIdle T.na_LittleIdle_size (j_var 0))) (pj_c j_str (pj_c (j_fmt (j_fld T.cl_LittleIdle T.na_LittleIdle_most (j_var 0))) pj_n)))))))
theorem sc_NoRefusal_shown : FnScope N_NoRefusal_shown ["self"] (defScope s_NoRefusal_shown) := ⟨rfl, rfl, rfl, by decide +kernel, rfl, by decide +kernel, by decide +kernel⟩
theorem ok_NoRefusal_shown (T : Tx K mg a) : FnOk P w K mg base (L2N.CX P w) 1 a.f_NoRefusal_shown a.d_NoRefusal_shown ["self"] (liftSp K 1 (C_NoRefusal_shown a)) := by
  refine fn_ok T.F_NoRefusal_shown sc_NoRefusal_shown (by decide) (fun cdv A outer s H E hr => ?_) (pl_NoRefusal_shown T)
  have tk : L2N.Takes (cxOf (L2N.CX P w) P w K mg base N_NoRefusal_shown "NoRefusal.shown" (defScope s_NoRefusal_shown) a.f_NoRefusal_shown cdv A outer s H E) (fun cls d _ H => E cls d H) := L2N.takes_of rfl rfl rfl rfl
  exact (jss_one (js_ret (j_js (pj_c j_str (pj_c (j_fmt (j_fld T.cl_NoRefusal T.na_NoRefusal_blocks (j_var 0))) (pj_c j_str (pj_c (j_fmt (j_fld T.cl_NoRefusal T.na_NoRefusal_files (j_var 0))) (pj_c j_str (pj_c (j_fmt (j_fld T.cl_NoRefusal T.na_NoRefusal_at_least (j_var 0))) pj_n)))))))))
theorem sc_BothWishes___init__ : FnScope N_BothWishes___init__ ["self", "one", "other"] (defScope s_BothWishes___init__) := ⟨rfl, rfl, rfl, by decide +kernel, rfl, by decide +kernel, by decide +kernel⟩
theorem ok_BothWishes___init__ (T : Tx K mg a) : FnOk P w K mg base (L2N.CX P w) 1 a.f_BothWishes___init__ a.d_BothWishes___init__ ["self", "one", "other"] (liftSp K 3 (C_BothWishes___init__ a)) := by
  refine fn_ok T.F_BothWishes___init__ sc_BothWishes___init__ (by decide) (fun cdv A outer s H E hr => ?_) (pl_BothWishes___init__ T)
  have tk : L2N.Takes (cxOf (L2N.CX P w) P w K mg base N_BothWishes___init__ "BothWishes.__init__" (defScope s_BothWishes___init__) a.f_BothWishes___init__ cdv A outer s H E) (fun cls d _ H => E cls d H) := L2N.takes_of rfl rfl rfl rfl
  exact (jss_cons (js_fld T.cl_BothWishes T.na_BothWishes_one (j_var 0) (j_var 1))
    (jss_one (js_fld T.cl_BothWishes T.na_BothWishes_other (j_var 0) (j_var 2))))
theorem sc_EitherWish___init__ : FnScope N_EitherWish___init__ ["self", "one", "other"] (defScope s_EitherWish___init__) := ⟨rfl, rfl, rfl, by decide +kernel, rfl, by decide +kernel, by decide +kernel⟩
theorem ok_EitherWish___init__ (T : Tx K mg a) : FnOk P w K mg base (L2N.CX P w) 1 a.f_EitherWish___init__ a.d_EitherWish___init__ ["self", "one", "other"] (liftSp K 3 (C_EitherWish___init__ a)) := by
  refine fn_ok T.F_EitherWish___init__ sc_EitherWish___init__ (by decide) (fun cdv A outer s H E hr => ?_) (pl_EitherWish___init__ T)
  have tk : L2N.Takes (cxOf (L2N.CX P w) P w K mg base N_EitherWish___init__ "EitherWish.__init__" (defScope s_EitherWish___init__) a.f_EitherWish___init__ cdv A outer s H E) (fun cls d _ H => E cls d H) := L2N.takes_of rfl rfl rfl rfl
  exact (jss_cons (js_fld T.cl_EitherWish T.na_EitherWish_one (j_var 0) (j_var 1))
    (jss_one (js_fld T.cl_EitherWish T.na_EitherWish_other (j_var 0) (j_var 2))))
theorem sc_law_hand : FnScope N_law_hand ["_law_script", "_law_k"] (defScope s_law_hand) := ⟨rfl, rfl, rfl, by decide +kernel, rfl, by decide +kernel, by decide +kernel⟩
theorem ok_law_hand (T : Tx K mg a) : FnOk P w K mg base (L2N.CX P w) 1 a.f_law_hand a.d_law_hand ["_law_script", "_law_k"] (liftSp K 2 CHand) := by
  refine fn_wk (fn_ok T.F_law_hand sc_law_hand (by decide) (fun cdv A outer s H E hr => ?_) pl_law_hand) hand_wk
  have tk : L2N.Takes (cxOf (L2N.CX P w) P w K mg base N_law_hand "_law_hand" (defScope s_law_hand) a.f_law_hand cdv A outer s H E) (fun cls d _ H => E cls d H) := L2N.takes_of rfl rfl rfl rfl
  exact (jss_cons (js_set (i := 2) sc_law_hand.nd rfl (by first | exact Or.inl rfl | exact Or.inr rfl) (j_ix (j_op o_add (p_add true) (j_sl true (j_var 0) (jo_some (j_var 1)) (jo_some (j_op o_add (p_add true) (j_var 1) j_int))) (j_pure (t := .lst [.int 0]) (j_lst true (ja_cons j_int ja_nil)) (pu_lst (pa_c pu_c pa_n) (by decide)))) j_int))
    (jss_cons (js_set (i := 3) sc_law_hand.nd rfl (by first | exact Or.inl rfl | exact Or.inr rfl) (j_op op_mod p_mod (j_op o_mul (p_mul true) (j_op o_add (p_add true) (j_op o_add (p_add true) (j_op op_mod p_mod (j_cty call_int1 c_int rfl T.z_int (by decide +kernel) (ja_cons (j_var 2) ja_nil)) j_int) (j_op o_mul (p_mul true) j_int (j_var 1))) j_int) j_int) j_int))
    (jss_one (js_ret (j_lst false (ja_cons (j_op o_mul (p_mul true) (j_cty call_int1 c_int rfl T.z_int (by decide +kernel) (ja_cons (j_cmp op_ge p_ge (j_var 2) (j_pure (t := .int (10 ^ 18)) (j_op op_pow p_pow j_int j_int) (pu_pow pu_c pu_c (by decide))) (nomark _)) ja_nil)) (j_var 2)) (ja_cons (j_var 3) ja_nil)))))))
theorem sc_law_draw : FnScope N_law_draw ["_law_pool", "_law_many"] (defScope s_law_draw) := ⟨rfl, rfl, rfl, by decide +kernel, rfl, by decide +kernel, by decide +kernel⟩
theorem ok_law_draw (T : Tx K mg a) : FnOk P w K mg base (L2N.CX P w) 1 a.f_law_draw a.d_law_draw ["_law_pool", "_law_many"] (liftSp K 2 CDraw) := by
  refine fn_wk (fn_ok T.F_law_draw sc_law_draw (by decide) (fun cdv A outer s H E hr => ?_) pl_law_draw) draw_wk
  have tk : L2N.Takes (cxOf (L2N.CX P w) P w K mg base N_law_draw "_law_draw" (defScope s_law_draw) a.f_law_draw cdv A outer s H E) (fun cls d _ H => E cls d H) := L2N.takes_of rfl rfl rfl rfl
  exact (jss_cons (js_if (jt_cmp op_gt p_gt (j_ix (j_var 0) j_int) j_int (nomark _)) (jss_cons (js_set (i := 2) sc_law_draw.nd rfl (by first | exact Or.inl rfl | exact Or.inr rfl) (j_op op_mod p_mod (j_cty call_int1 c_int rfl T.z_int (by decide +kernel) (ja_cons (j_ix (j_var 0) j_int) ja_nil)) (j_var 1)))
    (jss_cons (js_asg (j_op op_fdivW p_div (j_ix (j_var 0) j_int) (j_var 1)) (jg_sub (j_var 0) j_int))
    (jss_one (js_ret (j_var 2))))) jss_nil)
    (jss_cons (js_asg (j_op op_mod p_mod (j_cty call_int1 c_int rfl T.z_int (by decide +kernel) (ja_cons (j_op o_add (p_add true) (j_op o_mul (p_mul true) (j_ix (j_var 0) j_int) j_int) j_int) ja_nil)) j_int) (jg_sub (j_var 0) j_int))
    (jss_one (js_ret (j_op op_mod p_mod (j_op op_fdivW p_div (j_op op_mod p_mod (j_cty call_int1 c_int rfl T.z_int (by decide +kernel) (ja_cons (j_op o_mul (p_mul true) (j_ix (j_var 0) j_int) (j_ix (j_var 0) j_int)) ja_nil)) j_int) j_int) (j_var 1))))))
theorem sc_is_share : FnScope N_is_share ["thing"] (defScope s_is_share) := ⟨rfl, rfl, rfl, by decide +kernel, rfl, by decide +kernel, by decide +kernel⟩
theorem ok_is_share (T : Tx K mg a) : FnOk P w K mg base (L2N.CX P w) 2 a.f_is_share a.d_is_share ["thing"] (liftSp K 1 C_is_share) := by
  refine fn_ok T.F_is_share sc_is_share (by decide) (fun cdv A outer s H E hr => ?_) pl_is_share
  have tk : L2N.Takes (cxOf (L2N.CX P w) P w K mg base N_is_share "is_share" (defScope s_is_share) a.f_is_share cdv A outer s H E) (fun cls d _ H => E cls d H) := L2N.takes_of rfl rfl rfl rfl
  exact (jss_cons (js_if (jt_w (jw_or (jt_not (jt_tru (j_cb call_isi c_isi rfl T.z_isinstance (by decide +kernel) (ja_cons (j_var 0) (ja_cons (j_ty rfl T.z_tuple (by decide +kernel)) ja_nil))))) (jw_or1 (jt_cmp (op_neD hr.units) p_ne (j_cb call_len c_len rfl T.z_len (by decide +kernel) (ja_cons (j_var 0) ja_nil)) j_int (nomark _))))) (jss_one (js_ret j_bl)) jss_nil)
    (jss_one (js_ret (j_and (j_frz (j_call (ok_is_integer T) (hr.mono (by decide)) rfl T.g_is_integer T.F_is_integer.kp T.b_is_integer (pxT tk) (ja_cons (j_ix (j_var 0) j_int) (ja_cons j_int (ja_cons (j_globI rfl (T.c_MOST_SHARE).choose_spec) ja_nil))))) (j_one (j_frz (j_call (ok_is_integer T) (hr.mono (by decide)) rfl T.g_is_integer T.F_is_integer.kp T.b_is_integer (pxT tk) (ja_cons (j_ix (j_var 0) j_int) (ja_cons j_int (ja_cons (j_globI rfl (T.c_MOST_SHARE).choose_spec) ja_nil))))))))))
theorem sc_Book_given : FnScope N_Book_given ["self", "hold"] (defScope s_Book_given) := ⟨rfl, rfl, rfl, by decide +kernel, rfl, by decide +kernel, by decide +kernel⟩
theorem ok_Book_given (T : Tx K mg a) : FnOk P w K mg base (L2N.CX P w) 2 a.f_Book_given a.d_Book_given ["self", "hold"] (liftSp K 2 (C_Book_given a)) := by
  refine fn_ok T.F_Book_given sc_Book_given (by decide) (fun cdv A outer s H E hr => ?_) (pl_Book_given T)
  have tk : L2N.Takes (cxOf (L2N.CX P w) P w K mg base N_Book_given "Book.given" (defScope s_Book_given) a.f_Book_given cdv A outer s H E) (fun cls d _ H => E cls d H) := L2N.takes_of rfl rfl rfl rfl
  exact (jss_cons (js_set (i := 2) sc_Book_given.nd rfl (by first | exact Or.inl rfl | exact Or.inr rfl) (j_frz (j_call (ok_part_of T) (hr.mono (by decide)) rfl T.g_part_of T.F_part_of.kp T.b_part_of (pxT tk) (ja_cons (j_fld T.cl_Book T.na_Book_own_share (j_var 0)) (ja_cons (j_var 1) ja_nil)))))
    (jss_cons (js_if (jt_cmp op_lt p_lt (j_var 2) (j_fld T.cl_Book T.na_Book_own_first (j_var 0)) (nomark _)) (jss_one (js_ret (j_fld T.cl_Book T.na_Book_own_first (j_var 0)))) jss_nil)
    (jss_one (js_ret (j_if (jt_cmp op_lt p_lt (j_var 2) (j_fld T.cl_Book T.na_Book_own_roof (j_var 0)) (nomark _)) (j_var 2) (j_fld T.cl_Book T.na_Book_own_roof (j_var 0)))))))
theorem sc_law_parts : FnScope N_law_parts ["_law_pool"] (defScope s_law_parts) := ⟨rfl, rfl, rfl, by decide +kernel, rfl, by decide +kernel, by decide +kernel⟩
theorem ok_law_parts (T : Tx K mg a) : FnOk P w K mg base (L2N.CX P w) 2 a.f_law_parts a.d_law_parts ["_law_pool"] (liftSp K 1 C_law_parts) := by
  refine fn_ok T.F_law_parts sc_law_parts (by decide) (fun cdv A outer s H E hr => ?_) pl_law_parts
  have tk : L2N.Takes (cxOf (L2N.CX P w) P w K mg base N_law_parts "_law_parts" (defScope s_law_parts) a.f_law_parts cdv A outer s H E) (fun cls d _ H => E cls d H) := L2N.takes_of rfl rfl rfl rfl
  exact (jss_cons (js_set (i := 1) sc_law_parts.nd rfl (by first | exact Or.inl rfl | exact Or.inr rfl) (j_ix (j_pure (t := .lst [.int 1, .int 1, .int 2, .int 3, .int 4, .int 7]) (j_lst true (ja_cons j_int (ja_cons j_int (ja_cons j_int (ja_cons j_int (ja_cons j_int (ja_cons j_int ja_nil))))))) (pu_lst (pa_c pu_c (pa_c pu_c (pa_c pu_c (pa_c pu_c (pa_c pu_c (pa_c pu_c pa_n)))))) (by decide))) (j_frz (j_call (ok_law_draw T) (hr.mono (by decide)) rfl T.g_law_draw T.F_law_draw.kp T.b_law_draw (pxT tk) (ja_cons (j_var 0) (ja_cons j_int ja_nil))))))
    (jss_cons (js_set (i := 2) sc_law_parts.nd rfl (by first | exact Or.inl rfl | exact Or.inr rfl) (j_op o_add (p_add true) (j_var 1) (j_ix (j_pure (t := .lst [.int 0, .int 0, .int 1, .int 5, .int 20, .int 100]) (j_lst true (ja_cons j_int (ja_cons j_int (ja_cons j_int (ja_cons j_int (ja_cons j_int (ja_cons j_int ja_nil))))))) (pu_lst (pa_c pu_c (pa_c pu_c (pa_c pu_c (pa_c pu_c (pa_c pu_c (pa_c pu_c pa_n)))))) (by decide))) (j_frz (j_call (ok_law_draw T) (hr.mono (by decide)) rfl T.g_law_draw T.F_law_draw.kp T.b_law_draw (pxT tk) (ja_cons (j_var 0) (ja_cons j_int ja_nil)))))))
    (jss_cons (js_set (i := 3) sc_law_parts.nd rfl (by first | exact Or.inl rfl | exact Or.inr rfl) (j_tup (ja_cons (j_op o_add (p_add true) j_int (j_frz (j_call (ok_law_draw T) (hr.mono (by decide)) rfl T.g_law_draw T.F_law_draw.kp T.b_law_draw (pxT tk) (ja_cons (j_var 0) (ja_cons j_int ja_nil))))) (ja_cons (j_op o_add (p_add true) j_int (j_frz (j_call (ok_law_draw T) (hr.mono (by decide)) rfl T.g_law_draw T.F_law_draw.kp T.b_law_draw (pxT tk) (ja_cons (j_var 0) (ja_cons j_int ja_nil))))) ja_nil))))
    (jss_cons (js_set (i := 4) sc_law_parts.nd rfl (by first | exact Or.inl rfl | exact Or.inr rfl) (j_ix (j_lst true (ja_cons (j_pure (t := .tup [.int 1, .int 1]) (j_tup (ja_cons j_int (ja_cons j_int ja_nil))) (pu_tup (pa_c pu_c (pa_c pu_c pa_n)) (by decide))) (ja_cons (j_pure (t := .tup [.int 1, .int 1]) (j_tup (ja_cons j_int (ja_cons j_int ja_nil))) (pu_tup (pa_c pu_c (pa_c pu_c pa_n)) (by decide))) (ja_cons (j_pure (t := .tup [.int 1, .int 2]) (j_tup (ja_cons j_int (ja_cons j_int ja_nil))) (pu_tup (pa_c pu_c (pa_c pu_c pa_n)) (by decide))) (ja_cons (j_pure (t := .tup [.int 2, .int 3]) (j_tup (ja_cons j_int (ja_cons j_int ja_nil))) (pu_tup (pa_c pu_c (pa_c pu_c pa_n)) (by decide))) (ja_cons (j_pure (t := .tup [.int 1, .int 10]) (j_tup (ja_cons j_int (ja_cons j_int ja_nil))) (pu_tup (pa_c pu_c (pa_c pu_c pa_n)) (by decide))) (ja_cons (j_var 3) ja_nil))))))) (j_frz (j_call (ok_law_draw T) (hr.mono (by decide)) rfl T.g_law_draw T.F_law_draw.kp T.b_law_draw (pxT tk) (ja_cons (j_var 0) (ja_cons j_int ja_nil))))))
    (jss_one (js_ret (j_tup (ja_cons (j_var 1) (ja_cons (j_var 2) (ja_cons (j_var 4) ja_nil))))))))))
theorem sc_check_integer : FnScope N_check_integer ["thing", "least", "most"] (defScope s_check_integer) := ⟨rfl, rfl, rfl, by decide +kernel, rfl, by decide +kernel, by decide +kernel⟩
theorem ok_check_integer (T : Tx K mg a) : FnOk P w K mg base (L2N.CX P w) 3 a.f_check_integer a.d_check_integer ["thing", "least", "most"] (liftSp K 3 (C_check_integer a)) := by
  refine fn_ok T.F_check_integer sc_check_integer (by decide) (fun cdv A outer s H E hr => ?_) (pl_check_integer T)
  have tk : L2N.Takes (cxOf (L2N.CX P w) P w K mg base N_check_integer "check_integer" (defScope s_check_integer) a.f_check_integer cdv A outer s H E) (fun cls d _ H => E cls d H) := L2N.takes_of rfl rfl rfl rfl
  exact (jss_one (js_if (jt_not (jt_tru (j_frz (j_call (ok_is_integer T) (hr.mono (by decide)) rfl T.g_is_integer T.F_is_integer.kp T.b_is_integer (pxT tk) (ja_cons (j_var 0) (ja_cons (j_var 1) (ja_cons (j_var 2) ja_nil))))))) (jss_one (js_raise T.o_InvalidNumber T.i_InvalidNumber T.t_InvalidNumber (okI_InvalidNumber T) T.BI_InvalidNumber (hr.mono (by decide)) rfl tk rfl T.g_InvalidNumber (ja_cons (j_var 0) ja_nil))) jss_nil))
theorem sc_check_parts : FnScope N_check_parts ["first", "roof", "share", "ahead"] (defScope s_check_parts) := ⟨rfl, rfl, rfl, by decide +kernel, rfl, by decide +kernel, by decide +kernel⟩
theorem ok_check_parts (T : Tx K mg a) : FnOk P w K mg base (L2N.CX P w) 3 a.f_check_parts a.d_check_parts ["first", "roof", "share", "ahead"] (liftSp K 4 C_check_parts) := by
  refine fn_ok T.F_check_parts sc_check_parts (by decide) (fun cdv A outer s H E hr => ?_) (pl_check_parts T)
  have tk : L2N.Takes (cxOf (L2N.CX P w) P w K mg base N_check_parts "check_parts" (defScope s_check_parts) a.f_check_parts cdv A outer s H E) (fun cls d _ H => E cls d H) := L2N.takes_of rfl rfl rfl rfl
  exact (jss_cons (js_if (jt_not (jt_tru (j_frz (j_call (ok_is_integer T) (hr.mono (by decide)) rfl T.g_is_integer T.F_is_integer.kp T.b_is_integer (pxT tk) (ja_cons (j_var 0) (ja_cons j_int (ja_cons (j_globI rfl (T.c_MOST_GROWTH_checks).choose_spec) ja_nil))))))) (jss_one (js_raise T.o_InvalidBook T.i_InvalidBook T.t_InvalidBook (okI_InvalidBook T) T.BI_InvalidBook (hr.mono (by decide)) rfl tk rfl T.g_InvalidBook (ja_cons j_str ja_nil))) jss_nil)
    (jss_cons (js_if (jt_w (jw_or (jt_not (jt_tru (j_frz (j_call (ok_is_integer T) (hr.mono (by decide)) rfl T.g_is_integer T.F_is_integer.kp T.b_is_integer (pxT tk) (ja_cons (j_var 1) (ja_cons j_int (ja_cons (j_globI rfl (T.c_MOST_GROWTH_checks).choose_spec) ja_nil))))))) (jw_or1 (jt_cmp op_lt p_lt (j_var 1) (j_var 0) (nomark _))))) (jss_one (js_raise T.o_InvalidBook T.i_InvalidBook T.t_InvalidBook (okI_InvalidBook T) T.BI_InvalidBook (hr.mono (by decide)) rfl tk rfl T.g_InvalidBook (ja_cons (j_var 3) ja_nil))) jss_nil)
    (jss_one (js_if (jt_not (jt_tru (j_frz (j_call (ok_is_share T) (hr.mono (by decide)) rfl T.g_is_share T.F_is_share.kp T.b_is_share (pxT tk) (ja_cons (j_var 2) ja_nil))))) (jss_one (js_raise T.o_InvalidBook T.i_InvalidBook T.t_InvalidBook (okI_InvalidBook T) T.BI_InvalidBook (hr.mono (by decide)) rfl tk rfl T.g_InvalidBook (ja_cons j_str ja_nil))) jss_nil))))
theorem sc_Wish___and__ : FnScope N_Wish___and__ ["self", "other"] (defScope s_Wish___and__) := ⟨rfl, rfl, rfl, by decide +kernel, rfl, by decide +kernel, by decide +kernel⟩
theorem ok_Wish___and__ (T : Tx K mg a) : FnOk P w K mg base (L2N.CX P w) 3 a.f_Wish___and__ a.d_Wish___and__ ["self", "other"] (liftSp K 2 (C_Wish___and__ a)) := by
  refine fn_ok T.F_Wish___and__ sc_Wish___and__ (by decide) (fun cdv A outer s H E hr => ?_) (pl_Wish___and__ T)
  have tk : L2N.Takes (cxOf (L2N.CX P w) P w K mg base N_Wish___and__ "Wish.__and__" (defScope s_Wish___and__) a.f_Wish___and__ cdv A outer s H E) (fun cls d _ H => E cls d H) := L2N.takes_of rfl rfl rfl rfl
  exact (jss_cons (js_if (jt_not (jt_tru (j_cb call_isi c_isiC rfl T.z_isinstance (by decide +kernel) (ja_cons (j_var 1) (ja_cons (j_globR rfl T.g_Wish) ja_nil))))) (jss_one js_never) jss_nil)
    (jss_one (js_ret (j_make (n := 2) T.mk_BothWishes (ok_BothWishes___init__ T) (hr.mono (by decide)) rfl T.g_BothWishes T.KB_BothWishes___init__ (pxT tk) (ja_cons (j_var 0) (ja_cons (j_var 1) ja_nil)) jk_nil))))
theorem sc_Wish___or__ : FnScope N_Wish___or__ ["self", "other"] (defScope s_Wish___or__) := ⟨rfl, rfl, rfl, by decide +kernel, rfl, by decide +kernel, by decide +kernel⟩
theorem ok_Wish___or__ (T : Tx K mg a) : FnOk P w K mg base (L2N.CX P w) 3 a.f_Wish___or__ a.d_Wish___or__ ["self", "other"] (liftSp K 2 (C_Wish___or__ a)) := by
  refine fn_ok T.F_Wish___or__ sc_Wish___or__ (by decide) (fun cdv A outer s H E hr => ?_) (pl_Wish___or__ T)
  have tk : L2N.Takes (cxOf (L2N.CX P w) P w K mg base N_Wish___or__ "Wish.__or__" (defScope s_Wish___or__) a.f_Wish___or__ cdv A outer s H E) (fun cls d _ H => E cls d H) := L2N.takes_of rfl rfl rfl rfl
  exact (jss_cons (js_if (jt_not (jt_tru (j_cb call_isi c_isiC rfl T.z_isinstance (by decide +kernel) (ja_cons (j_var 1) (ja_cons (j_globR rfl T.g_Wish) ja_nil))))) (jss_one js_never) jss_nil)
    (jss_one (js_ret (j_make (n := 2) T.mk_EitherWish (ok_EitherWish___init__ T) (hr.mono (by decide)) rfl T.g_EitherWish T.KB_EitherWish___init__ (pxT tk) (ja_cons (j_var 0) (ja_cons (j_var 1) ja_nil)) jk_nil))))
theorem sc_Book___init__ : FnScope N_Book___init__ ["self", "first", "roof", "share"] (defScope s_Book___init__) := ⟨rfl, rfl, rfl, by decide +kernel, rfl, by decide +kernel, by decide +kernel⟩
theorem ok_Book___init__ (T : Tx K mg a) : FnOk P w K mg base (L2N.CX P w) 4 a.f_Book___init__ a.d_Book___init__ ["self", "first", "roof", "share"] (liftSp K 4 (C_Book___init__ a)) := by
  refine fn_ok T.F_Book___init__ sc_Book___init__ (by decide) (fun cdv A outer s H E hr => ?_) (pl_Book___init__ T)
  have tk : L2N.Takes (cxOf (L2N.CX P w) P w K mg base N_Book___init__ "Book.__init__" (defScope s_Book___init__) a.f_Book___init__ cdv A outer s H E) (fun cls d _ H => E cls d H) := L2N.takes_of rfl rfl rfl rfl
  exact (jss_cons (js_expr (j_frz (j_call (ok_check_parts T) (hr.mono (by decide)) rfl T.g_check_parts T.F_check_parts.kp T.b_check_parts (pxT tk) (ja_cons (j_var 1) (ja_cons (j_var 2) (ja_cons (j_var 3) (ja_cons j_str ja_nil)))))))
    (jss_cons (js_fld T.cl_Book T.na_Book_own_first (j_var 0) (j_var 1))
    (jss_cons (js_fld T.cl_Book T.na_Book_own_roof (j_var 0) (j_var 2))
    (jss_one (js_fld T.cl_Book T.na_Book_own_share (j_var 0) (j_var 3))))))
theorem sc_Book_step : FnScope N_Book_step ["self", "hold"] (defScope s_Book_step) := ⟨rfl, rfl, rfl, by decide +kernel, rfl, by decide +kernel, by decide +kernel⟩
theorem ok_Book_step (T : Tx K mg a) : FnOk P w K mg base (L2N.CX P w) 4 a.f_Book_step a.d_Book_step ["self", "hold"] (liftSp K 2 (C_Book_step a)) := by
  refine fn_ok T.F_Book_step sc_Book_step (by decide) (fun cdv A outer s H E hr => ?_) (pl_Book_step T)
  have tk : L2N.Takes (cxOf (L2N.CX P w) P w K mg base N_Book_step "Book.step" (defScope s_Book_step) a.f_Book_step cdv A outer s H E) (fun cls d _ H => E cls d H) := L2N.takes_of rfl rfl rfl rfl
  exact (jss_cons (js_expr (j_frz (j_call (ok_check_integer T) (hr.mono (by decide)) rfl T.g_check_integer T.F_check_integer.kp T.b_check_integer (pxT tk) (ja_cons (j_var 1) (ja_cons j_int (ja_cons (j_globI rfl (T.c_MOST).choose_spec) ja_nil))))))
    (jss_one (js_ret (j_meth T.cl_Book T.me_Book_given (ok_Book_given T) (hr.mono (by decide)) T.b_Book_given (pxT tk) (j_var 0) (ja_cons (j_var 1) ja_nil)))))
theorem sc_check_blocks : FnScope N_check_blocks ["blocks", "files", "least"] (defScope s_check_blocks) := ⟨rfl, rfl, rfl, by decide +kernel, rfl, by decide +kernel, by decide +kernel⟩
theorem ok_check_blocks (T : Tx K mg a) : FnOk P w K mg base (L2N.CX P w) 4 a.f_check_blocks a.d_check_blocks ["blocks", "files", "least"] (liftSp K 3 (C_check_blocks a)) := by
  refine fn_ok T.F_check_blocks sc_check_blocks (by decide) (fun cdv A outer s H E hr => ?_) (pl_check_blocks T)
  have tk : L2N.Takes (cxOf (L2N.CX P w) P w K mg base N_check_blocks "check_blocks" (defScope s_check_blocks) a.f_check_blocks cdv A outer s H E) (fun cls d _ H => E cls d H) := L2N.takes_of rfl rfl rfl rfl
  exact (jss_cons (js_expr (j_frz (j_call (ok_check_integer T) (hr.mono (by decide)) rfl T.g_check_integer T.F_check_integer.kp T.b_check_integer (pxT tk) (ja_cons (j_var 0) (ja_cons j_int (ja_cons (j_globI rfl (T.c_MOST_BLOCKS).choose_spec) ja_nil))))))
    (jss_one (js_expr (j_frz (j_call (ok_check_integer T) (hr.mono (by decide)) rfl T.g_check_integer T.F_check_integer.kp T.b_check_integer (pxT tk) (ja_cons (j_var 1) (ja_cons (j_var 2) (ja_cons (j_globI rfl (T.c_MOST_FILES).choose_spec) ja_nil))))))))
theorem sc_FewPieces___init__ : FnScope N_FewPieces___init__ ["self", "size", "most"] (defScope s_FewPieces___init__) := ⟨rfl, rfl, rfl, by decide +kernel, rfl, by decide +kernel, by decide +kernel⟩
theorem ok_FewPieces___init__ (T : Tx K mg a) : FnOk P w K mg base (L2N.CX P w) 4 a.f_FewPieces___init__ a.d_FewPieces___init__ ["self", "size", "most"] (liftSp K 3 (C_FewPieces___init__ a)) := by
  refine fn_ok T.F_FewPieces___init__ sc_FewPieces___init__ (by decide) (fun cdv A outer s H E hr => ?_) (pl_FewPieces___init__ T)
  have tk : L2N.Takes (cxOf (L2N.CX P w) P w K mg base N_FewPieces___init__ "FewPieces.__init__" (defScope s_FewPieces___init__) a.f_FewPieces___init__ cdv A outer s H E) (fun cls d _ H => E cls d H) := L2N.takes_of rfl rfl rfl rfl
  exact (jss_cons (js_expr (j_frz (j_call (ok_check_integer T) (hr.mono (by decide)) rfl T.g_check_integer T.F_check_integer.kp T.b_check_integer (pxT tk) (ja_cons (j_var 1) (ja_cons j_int (ja_cons (j_globI rfl (T.c_MOST_GROWTH_checks).choose_spec) ja_nil))))))
    (jss_cons (js_expr (j_frz (j_call (ok_check_integer T) (hr.mono (by decide)) rfl T.g_check_integer T.F_check_integer.kp T.b_check_integer (pxT tk) (ja_cons (j_var 2) (ja_cons j_int (ja_cons (j_globI rfl (T.c_MOST_GROWTH_checks).choose_spec) ja_nil))))))
    (jss_cons (js_fld T.cl_FewPieces T.na_FewPieces_size (j_var 0) (j_var 1))
    (jss_one (js_fld T.cl_FewPieces T.na_FewPieces_most (j_var 0) (j_var 2))))))
theorem sc_LittleIdle___init__ : FnScope N_LittleIdle___init__ ["self", "size", "most"] (defScope s_LittleIdle___init__) := ⟨rfl, rfl, rfl, by decide +kernel, rfl, by decide +kernel, by decide +kernel⟩
theorem ok_LittleIdle___init__ (T : Tx K mg a) : FnOk P w K mg base (L2N.CX P w) 4 a.f_LittleIdle___init__ a.d_LittleIdle___init__ ["self", "size", "most"] (liftSp K 3 (C_LittleIdle___init__ a)) := by
  refine fn_ok T.F_LittleIdle___init__ sc_LittleIdle___init__ (by decide) (fun cdv A outer s H E hr => ?_) (pl_LittleIdle___init__ T)
  have tk : L2N.Takes (cxOf (L2N.CX P w) P w K mg base N_LittleIdle___init__ "LittleIdle.__init__" (defScope s_LittleIdle___init__) a.f_LittleIdle___init__ cdv A outer s H E) (fun cls d _ H => E cls d H) := L2N.takes_of rfl rfl rfl rfl
  exact (jss_cons (js_expr (j_frz (j_call (ok_check_integer T) (hr.mono (by decide)) rfl T.g_check_integer T.F_check_integer.kp T.b_check_integer (pxT tk) (ja_cons (j_var 1) (ja_cons j_int (ja_cons (j_globI rfl (T.c_MOST_GROWTH_checks).choose_spec) ja_nil))))))
    (jss_cons (js_expr (j_frz (j_call (ok_check_integer T) (hr.mono (by decide)) rfl T.g_check_integer T.F_check_integer.kp T.b_check_integer (pxT tk) (ja_cons (j_var 2) (ja_cons j_int (ja_cons (j_globI rfl (T.c_MOST_GROWTH_checks).choose_spec) ja_nil))))))
    (jss_cons (js_fld T.cl_LittleIdle T.na_LittleIdle_size (j_var 0) (j_var 1))
    (jss_one (js_fld T.cl_LittleIdle T.na_LittleIdle_most (j_var 0) (j_var 2))))))
theorem sc_ramp : FnScope N_ramp ["book"] (defScope s_ramp) := ⟨rfl, rfl, rfl, by decide +kernel, rfl, by decide +kernel, by decide +kernel⟩
theorem ok_ramp (T : Tx K mg a) : FnOk P w K mg base (L2N.CX P w) 5 a.f_ramp a.d_ramp ["book"] (liftSp K 1 (C_ramp a)) := by
  refine fn_ok T.F_ramp sc_ramp (by decide) (fun cdv A outer s H E hr => ?_) (pl_ramp T)
  have tk : L2N.Takes (cxOf (L2N.CX P w) P w K mg base N_ramp "ramp" (defScope s_ramp) a.f_ramp cdv A outer s H E) (fun cls d _ H => E cls d H) := L2N.takes_of rfl rfl rfl rfl
  exact (jss_cons (js_set (i := 1) sc_ramp.nd rfl (by first | exact Or.inl rfl | exact Or.inr rfl) (j_lst false (ja_cons j_int ja_nil)))
    (jss_cons (js_set (i := 2) sc_ramp.nd rfl (by first | exact Or.inl rfl | exact Or.inr rfl) (j_prop rfl rfl T.cl_Book T.pr_Book_roof (ok_Book_roof T) (hr.mono (by decide)) T.b_Book_roof (j_var 0)))
    (jss_cons (js_set (i := 3) sc_ramp.nd rfl (by first | exact Or.inl rfl | exact Or.inr rfl) (j_frz (j_meth T.cl_Book T.me_Book_step (ok_Book_step T) (hr.mono (by decide)) T.b_Book_step (pxT tk) (j_var 0) (ja_cons j_int ja_nil))))
    (jss_cons (js_while (passes_of rfl) (jt_cmp op_lt p_lt (j_var 3) (j_var 2) (nomark _)) (jss_cons (js_expr (j_bm PySem.F.plainAttrs_list PySem.F.slot_list_append PySem.F.type_list_append mt_append ty_list c_app (j_var 1) (ja_cons (j_op o_add (p_add true) (j_ix (j_var 1) (j_pure (t := .int (-1)) (j_neg j_int) (pu_neg pu_c))) (j_var 3)) ja_nil)))
    (jss_one (js_set (i := 3) sc_ramp.nd rfl (by first | exact Or.inl rfl | exact Or.inr rfl) (j_frz (j_meth T.cl_Book T.me_Book_step (ok_Book_step T) (hr.mono (by decide)) T.b_Book_step (pxT tk) (j_var 0) (ja_cons (j_ix (j_var 1) (j_pure (t := .int (-1)) (j_neg j_int) (pu_neg pu_c))) ja_nil)))))))
    (jss_one (js_ret (j_var 1)))))))
theorem sc_most_idle : FnScope N_most_idle ["book", "size"] (defScope s_most_idle) := ⟨rfl, rfl, rfl, by decide +kernel, rfl, by decide +kernel, by decide +kernel⟩
theorem ok_most_idle (T : Tx K mg a) : FnOk P w K mg base (L2N.CX P w) 5 a.f_most_idle a.d_most_idle ["book", "size"] (liftSp K 2 (C_most_idle a)) := by
  refine fn_ok T.F_most_idle sc_most_idle (by decide) (fun cdv A outer s H E hr => ?_) (pl_most_idle T)
  have tk : L2N.Takes (cxOf (L2N.CX P w) P w K mg base N_most_idle "most_idle" (defScope s_most_idle) a.f_most_idle cdv A outer s H E) (fun cls d _ H => E cls d H) := L2N.takes_of rfl rfl rfl rfl
  exact (jss_cons (js_expr (j_frz (j_call (ok_check_integer T) (hr.mono (by decide)) rfl T.g_check_integer T.F_check_integer.kp T.b_check_integer (pxT tk) (ja_cons (j_var 1) (ja_cons j_int (ja_cons (j_globI rfl (T.c_MOST_GROWTH_numbers).choose_spec) ja_nil))))))
    (jss_cons (js_if (jt_cmp (op_eqD hr.units) p_eq (j_var 1) j_int (nomark _)) (jss_one (js_ret j_int)) jss_nil)
    (jss_cons (js_if (jt_cmp op_gt p_gt (j_var 1) (j_prop rfl rfl T.cl_Book T.pr_Book_first (ok_Book_first T) (hr.mono (by decide)) T.b_Book_first (j_var 0)) (nomark _)) (jss_one (js_ret (j_op op_sub p_sub (j_frz (j_meth T.cl_Book T.me_Book_step (ok_Book_step T) (hr.mono (by decide)) T.b_Book_step (pxT tk) (j_var 0) (ja_cons (j_op op_sub p_sub (j_var 1) j_int) ja_nil))) j_int))) jss_nil)
    (jss_one (js_ret (j_op op_sub p_sub (j_prop rfl rfl T.cl_Book T.pr_Book_first (ok_Book_first T) (hr.mono (by decide)) T.b_Book_first (j_var 0)) (j_var 1)))))))
theorem sc_whole_choices : FnScope N_whole_choices ["book", "blocks"] (defScope s_whole_choices) := ⟨rfl, rfl, rfl, by decide +kernel, rfl, by decide +kernel, by decide +kernel⟩
theorem ok_whole_choices (T : Tx K mg a) : FnOk P w K mg base (L2N.CX P w) 5 a.f_whole_choices a.d_whole_choices ["book", "blocks"] (liftSp K 2 (C_whole_choices a)) := by
  refine fn_ok T.F_whole_choices sc_whole_choices (by decide) (fun cdv A outer s H E hr => ?_) (pl_whole_choices T)
  have tk : L2N.Takes (cxOf (L2N.CX P w) P w K mg base N_whole_choices "whole_choices" (defScope s_whole_choices) a.f_whole_choices cdv A outer s H E) (fun cls d _ H => E cls d H) := L2N.takes_of rfl rfl rfl rfl
  exact (jss_cons (js_set (i := 2) sc_whole_choices.nd rfl (by first | exact Or.inl rfl | exact Or.inr rfl) j_dnew)
    (jss_cons (js_if (jt_cmp op_le p_le (j_prop rfl rfl T.cl_Book T.pr_Book_first (ok_Book_first T) (hr.mono (by decide)) T.b_Book_first (j_var 0)) (j_var 1) (nomark _)) (jss_one (js_dput (hu_of hr) (j_var 2) (j_prop rfl rfl T.cl_Book T.pr_Book_first (ok_Book_first T) (hr.mono (by decide)) T.b_Book_first (j_var 0)) (j_tup (ja_cons (j_op op_sub p_sub (j_prop rfl rfl T.cl_Book T.pr_Book_first (ok_Book_first T) (hr.mono (by decide)) T.b_Book_first (j_var 0)) j_int) (ja_cons (j_pure (t := .lst [.int 1]) (j_lst true (ja_cons j_int ja_nil)) (pu_lst (pa_c pu_c pa_n) (by decide))) ja_nil))))) jss_nil)
    (jss_cons (js_for (passes_of rfl) rfl (ji_rangeW rfl T.z_range (ja_cons (j_prop rfl rfl T.cl_Book T.pr_Book_first (ok_Book_first T) (hr.mono (by decide)) T.b_Book_first (j_var 0)) (ja_cons (j_var 1) ja_nil))) (jg_name (i := 3) sc_whole_choices.nd rfl (by first | exact Or.inl rfl | exact Or.inr rfl)) (jss_cons (js_set (i := 4) sc_whole_choices.nd rfl (by first | exact Or.inl rfl | exact Or.inr rfl) (j_frz (j_meth T.cl_Book T.me_Book_step (ok_Book_step T) (hr.mono (by decide)) T.b_Book_step (pxT tk) (j_var 0) (ja_cons (j_var 3) ja_nil))))
    (jss_cons (js_set (i := 5) sc_whole_choices.nd rfl (by first | exact Or.inl rfl | exact Or.inr rfl) (j_op o_add (p_add true) (j_var 3) (j_var 4)))
    (jss_one (js_if (jt_w (jw_and (jt_cmp op_le p_le (j_var 5) (j_var 1) (nomark _)) (jw_and1 (jt_w (jw_or (jt_dnotin (hu_of hr) (j_var 5) (j_var 2)) (jw_or1 (jt_cmp op_lt p_lt (j_ix (j_dget (hu_of hr) (fun _ _ => rfl) (j_var 2) (j_var 5)) j_int) (j_op op_sub p_sub (j_var 4) j_int) (nomark _)))))))) (jss_one (js_dput (hu_of hr) (j_var 2) (j_var 5) (j_tup (ja_cons (j_op op_sub p_sub (j_var 4) j_int) (ja_cons (j_lst true (ja_cons (j_var 3) (ja_cons j_int ja_nil))) ja_nil))))) jss_nil)))))
    (jss_one (js_ret (j_var 2))))))
theorem sc_short_choices : FnScope N_short_choices ["book", "blocks"] (defScope s_short_choices) := ⟨rfl, rfl, rfl, by decide +kernel, rfl, by decide +kernel, by decide +kernel⟩
theorem ok_short_choices (T : Tx K mg a) : FnOk P w K mg base (L2N.CX P w) 5 a.f_short_choices a.d_short_choices ["book", "blocks"] (liftSp K 2 (C_short_choices a)) := by
  refine fn_ok T.F_short_choices sc_short_choices (by decide) (fun cdv A outer s H E hr => ?_) (pl_short_choices T)
  have tk : L2N.Takes (cxOf (L2N.CX P w) P w K mg base N_short_choices "short_choices" (defScope s_short_choices) a.f_short_choices cdv A outer s H E) (fun cls d _ H => E cls d H) := L2N.takes_of rfl rfl rfl rfl
  exact (jss_cons (js_set (i := 2) sc_short_choices.nd rfl (by first | exact Or.inl rfl | exact Or.inr rfl) (j_lst false ja_nil))
    (jss_cons (js_for (passes_of rfl) rfl (ji_range1 rfl T.z_range (ja_cons (j_var 1) ja_nil)) (jg_name (i := 3) sc_short_choices.nd rfl (by first | exact Or.inl rfl | exact Or.inr rfl)) (jss_one (js_if (jt_w (jw_or (jt_cmp (op_eqD hr.units) p_eq (j_var 3) j_int (nomark _)) (jw_or1 (jt_cmp op_ge p_ge (j_var 3) (j_prop rfl rfl T.cl_Book T.pr_Book_first (ok_Book_first T) (hr.mono (by decide)) T.b_Book_first (j_var 0)) (nomark _))))) (jss_cons (js_set (i := 4) sc_short_choices.nd rfl (by first | exact Or.inl rfl | exact Or.inr rfl) (j_cb (call_minA rfl) c_min rfl T.z_min (by decide +kernel) (ja_cons (j_op op_sub p_sub (j_cty call_int1 c_int rfl T.z_int (by decide +kernel) (ja_cons (j_frz (j_meth T.cl_Book T.me_Book_step (ok_Book_step T) (hr.mono (by decide)) T.b_Book_step (pxT tk) (j_var 0) (ja_cons (j_var 3) ja_nil))) ja_nil)) j_int) (ja_cons (j_op op_sub p_sub (j_var 1) (j_var 3)) ja_nil))))
    (jss_one (js_for (passes_of rfl) rfl (ji_range2 rfl T.z_range (ja_cons j_int (ja_cons (j_op o_add (p_add true) (j_var 4) j_int) ja_nil))) (jg_name (i := 5) sc_short_choices.nd rfl (by first | exact Or.inl rfl | exact Or.inr rfl)) (jss_one (js_expr (j_bm PySem.F.plainAttrs_list PySem.F.slot_list_append PySem.F.type_list_append mt_append ty_list c_app (j_var 2) (ja_cons (j_tup (ja_cons (j_op o_add (p_add true) (j_var 3) (j_var 5)) (ja_cons (j_op op_sub p_sub (j_var 5) j_int) (ja_cons (j_if (jt_cmp (op_eqD hr.units) p_eq (j_var 3) j_int (nomark _)) (j_pure (t := .lst [.int 1]) (j_lst true (ja_cons j_int ja_nil)) (pu_lst (pa_c pu_c pa_n) (by decide))) (j_lst true (ja_cons (j_var 3) (ja_cons j_int ja_nil)))) ja_nil)))) ja_nil))))))) jss_nil)))
    (jss_one (js_ret (j_var 2)))))
theorem sc_NoRefusal___init__ : FnScope N_NoRefusal___init__ ["self", "blocks", "files", "least"] (defScope s_NoRefusal___init__) := ⟨rfl, rfl, rfl, by decide +kernel, rfl, by decide +kernel, by decide +kernel⟩
theorem ok_NoRefusal___init__ (T : Tx K mg a) : FnOk P w K mg base (L2N.CX P w) 5 a.f_NoRefusal___init__ a.d_NoRefusal___init__ ["self", "blocks", "files", "least"] (liftSp K 4 (C_NoRefusal___init__ a)) := by
  refine fn_ok T.F_NoRefusal___init__ sc_NoRefusal___init__ (by decide) (fun cdv A outer s H E hr => ?_) (pl_NoRefusal___init__ T)
  have tk : L2N.Takes (cxOf (L2N.CX P w) P w K mg base N_NoRefusal___init__ "NoRefusal.__init__" (defScope s_NoRefusal___init__) a.f_NoRefusal___init__ cdv A outer s H E) (fun cls d _ H => E cls d H) := L2N.takes_of rfl rfl rfl rfl
  exact (jss_cons (js_expr (j_frz (j_call (ok_check_blocks T) (hr.mono (by decide)) rfl T.g_check_blocks T.F_check_blocks.kp T.b_check_blocks (pxT tk) (ja_cons (j_var 1) (ja_cons (j_var 2) (ja_cons j_int ja_nil))))))
    (jss_cons (js_expr (j_frz (j_call (ok_check_integer T) (hr.mono (by decide)) rfl T.g_check_integer T.F_check_integer.kp T.b_check_integer (pxT tk) (ja_cons (j_var 3) (ja_cons j_int (ja_cons (j_globI rfl (T.c_MOST_BLOCKS).choose_spec) ja_nil))))))
    (jss_cons (js_fld T.cl_NoRefusal T.na_NoRefusal_blocks (j_var 0) (j_var 1))
    (jss_cons (js_fld T.cl_NoRefusal T.na_NoRefusal_files (j_var 0) (j_var 2))
    (jss_one (js_fld T.cl_NoRefusal T.na_NoRefusal_at_least (j_var 0) (j_var 3)))))))
theorem sc_BothWishes_shown : FnScope N_BothWishes_shown ["self"] (defScope s_BothWishes_shown) := ⟨rfl, rfl, rfl, by decide +kernel, rfl, by decide +kernel, by decide +kernel⟩
theorem ok_BothWishes_shown (T : Tx K mg a) (n : Nat) (ih : Dsp P w K mg base (1 + n) "shown" 1 (D_shown a n)) : FnOk P w K mg base (L2N.CX P w) (1 + n + 1) a.f_BothWishes_shown a.d_BothWishes_shown ["self"] (liftSp K 1 (C_BothWishes_shown a (n + 1))) := by
  refine fn_ok T.F_BothWishes_shown sc_BothWishes_shown (by decide) (fun cdv A outer s H E hr => ?_) (pl_BothWishes_shown T n)
  have tk : L2N.Takes (cxOf (L2N.CX P w) P w K mg base N_BothWishes_shown "BothWishes.shown" (defScope s_BothWishes_shown) a.f_BothWishes_shown cdv A outer s H E) (fun cls d _ H => E cls d H) := L2N.takes_of rfl rfl rfl rfl
  exact (jss_one (js_ret (j_js (pj_c j_str (pj_c (j_fmt (j_frz (j_methD0 ih (hr.mono (by omega)) (pxT tk) (j_fld T.cl_BothWishes T.na_BothWishes_one (j_var 0))))) (pj_c j_str (pj_c (j_fmt (j_frz (j_methD0 ih (hr.mono (by omega)) (pxT tk) (j_fld T.cl_BothWishes T.na_BothWishes_other (j_var 0))))) (pj_c j_str pj_n))))))))
theorem sc_EitherWish_shown : FnScope N_EitherWish_shown ["self"] (defScope s_EitherWish_shown) := ⟨rfl, rfl, rfl, by decide +kernel, rfl, by decide +kernel, by decide +kernel⟩
theorem ok_EitherWish_shown (T : Tx K mg a) (n : Nat) (ih : Dsp P w K mg base (1 + n) "shown" 1 (D_shown a n)) : FnOk P w K mg base (L2N.CX P w) (1 + n + 1) a.f_EitherWish_shown a.d_EitherWish_shown ["self"] (liftSp K 1 (C_EitherWish_shown a (n + 1))) := by
  refine fn_ok T.F_EitherWish_shown sc_EitherWish_shown (by decide) (fun cdv A outer s H E hr => ?_) (pl_EitherWish_shown T n)
  have tk : L2N.Takes (cxOf (L2N.CX P w) P w K mg base N_EitherWish_shown "EitherWish.shown" (defScope s_EitherWish_shown) a.f_EitherWish_shown cdv A outer s H E) (fun cls d _ H => E cls d H) := L2N.takes_of rfl rfl rfl rfl
  exact (jss_one (js_ret (j_js (pj_c j_str (pj_c (j_fmt (j_frz (j_methD0 ih (hr.mono (by omega)) (pxT tk) (j_fld T.cl_EitherWish T.na_EitherWish_one (j_var 0))))) (pj_c j_str (pj_c (j_fmt (j_frz (j_methD0 ih (hr.mono (by omega)) (pxT tk) (j_fld T.cl_EitherWish T.na_EitherWish_other (j_var 0))))) (pj_c j_str pj_n))))))))
theorem dsp_shown (T : Tx K mg a) : ∀ n, Dsp P w K mg base (1 + n) "shown" 1 (D_shown a n)
  | 0 => List.forall_mem_cons.mpr ⟨⟨⟨_, _, _, 1, by omega, T.me_FewPieces_shown, T.fc_FewPieces_shown, T.cl_FewPieces, ok_FewPieces_shown T, T.b_FewPieces_shown⟩⟩, List.forall_mem_cons.mpr ⟨⟨⟨_, _, _, 1, by omega, T.me_LittleIdle_shown, T.fc_LittleIdle_shown, T.cl_LittleIdle, ok_LittleIdle_shown T, T.b_LittleIdle_shown⟩⟩, List.forall_mem_cons.mpr ⟨⟨⟨_, _, _, 1, by omega, T.me_NoRefusal_shown, T.fc_NoRefusal_shown, T.cl_NoRefusal, ok_NoRefusal_shown T, T.b_NoRefusal_shown⟩⟩, List.forall_mem_cons.mpr ⟨⟨⟨_, _, _, 0, by omega, T.me_BothWishes_shown, T.fc_BothWishes_shown, T.cl_BothWishes, fn_none fun ts h Q E q => no_BothWishes_shown (E := E) q, T.b_BothWishes_shown⟩⟩, List.forall_mem_cons.mpr ⟨⟨⟨_, _, _, 0, by omega, T.me_EitherWish_shown, T.fc_EitherWish_shown, T.cl_EitherWish, fn_none fun ts h Q E q => no_EitherWish_shown (E := E) q, T.b_EitherWish_shown⟩⟩, fun _ h => nomatch h⟩⟩⟩⟩⟩
  | n + 1 => List.forall_mem_cons.mpr ⟨⟨⟨_, _, _, 1, by omega, T.me_FewPieces_shown, T.fc_FewPieces_shown, T.cl_FewPieces, ok_FewPieces_shown T, T.b_FewPieces_shown⟩⟩, List.forall_mem_cons.mpr ⟨⟨⟨_, _, _, 1, by omega, T.me_LittleIdle_shown, T.fc_LittleIdle_shown, T.cl_LittleIdle, ok_LittleIdle_shown T, T.b_LittleIdle_shown⟩⟩, List.forall_mem_cons.mpr ⟨⟨⟨_, _, _, 1, by omega, T.me_NoRefusal_shown, T.fc_NoRefusal_shown, T.cl_NoRefusal, ok_NoRefusal_shown T, T.b_NoRefusal_shown⟩⟩, List.forall_mem_cons.mpr ⟨⟨⟨_, _, _, 1 + n + 1, by omega, T.me_BothWishes_shown, T.fc_BothWishes_shown, T.cl_BothWishes, ok_BothWishes_shown T n (dsp_shown T n), T.b_BothWishes_shown⟩⟩, List.forall_mem_cons.mpr ⟨⟨⟨_, _, _, 1 + n + 1, by omega, T.me_EitherWish_shown, T.fc_EitherWish_shown, T.cl_EitherWish, ok_EitherWish_shown T n (dsp_shown T n), T.b_EitherWish_shown⟩⟩, fun _ h => nomatch h⟩⟩⟩⟩⟩
theorem sc_law_wish : FnScope N_law_wish ["_law_pool", "_law_deep"] (defScope s_law_wish) := ⟨rfl, rfl, rfl, by decide +kernel, rfl, by decide +kernel, by decide +kernel⟩
theorem ok_law_wish (T : Tx K mg a) (n : Nat) (ih : FnOk P w K mg base (L2N.CX P w) (2 + n) a.f_law_wish a.d_law_wish ["_law_pool", "_law_deep"] (liftSp K 2 (C_law_wish n))) : FnOk P w K mg base (L2N.CX P w) (2 + n + 1) a.f_law_wish a.d_law_wish ["_law_pool", "_law_deep"] (liftSp K 2 (C_law_wish (n + 1))) := by
  refine fn_ok T.F_law_wish sc_law_wish (by decide) (fun cdv A outer s H E hr => ?_) (pl_law_wish T n)
  have tk : L2N.Takes (cxOf (L2N.CX P w) P w K mg base N_law_wish "_law_wish" (defScope s_law_wish) a.f_law_wish cdv A outer s H E) (fun cls d _ H => E cls d H) := L2N.takes_of rfl rfl rfl rfl
  exact (jss_cons (js_set (i := 2) sc_law_wish.nd rfl (by first | exact Or.inl rfl | exact Or.inr rfl) (j_frz (j_call (ok_law_draw T) (hr.mono (by omega)) rfl T.g_law_draw T.F_law_draw.kp T.b_law_draw (pxT tk) (ja_cons (j_var 0) (ja_cons j_int ja_nil)))))
    (jss_cons (js_if (jt_w (jw_and (jt_cmp op_gt p_gt (j_var 1) j_int (nomark _)) (jw_and1 (jt_cmp op_gt p_gt (j_var 2) j_int (nomark _))))) (jss_one (js_ret (j_lst false (ja_cons (j_ix j_str (j_op op_sub p_sub (j_var 2) j_int)) (ja_cons (j_frz (j_call ih (hr.mono (by omega)) rfl T.g_law_wish T.F_law_wish.kp T.b_law_wish (pxT tk) (ja_cons (j_var 0) (ja_cons (j_op op_sub p_sub (j_var 1) j_int) ja_nil)))) (ja_cons (j_frz (j_call ih (hr.mono (by omega)) rfl T.g_law_wish T.F_law_wish.kp T.b_law_wish (pxT tk) (ja_cons (j_var 0) (ja_cons (j_op op_sub p_sub (j_var 1) j_int) ja_nil)))) ja_nil)))))) jss_nil)
    (jss_cons (js_if (jt_cmp (op_eqD hr.units) p_eq (j_var 2) j_int (nomark _)) (jss_one (js_ret (j_lst false (ja_cons j_str (ja_cons (j_frz (j_call (ok_law_draw T) (hr.mono (by omega)) rfl T.g_law_draw T.F_law_draw.kp T.b_law_draw (pxT tk) (ja_cons (j_var 0) (ja_cons j_int ja_nil)))) (ja_cons (j_frz (j_call (ok_law_draw T) (hr.mono (by omega)) rfl T.g_law_draw T.F_law_draw.kp T.b_law_draw (pxT tk) (ja_cons (j_var 0) (ja_cons j_int ja_nil)))) ja_nil)))))) jss_nil)
    (jss_cons (js_if (jt_cmp (op_eqD hr.units) p_eq (j_var 2) j_int (nomark _)) (jss_one (js_ret (j_lst false (ja_cons j_str (ja_cons (j_frz (j_call (ok_law_draw T) (hr.mono (by omega)) rfl T.g_law_draw T.F_law_draw.kp T.b_law_draw (pxT tk) (ja_cons (j_var 0) (ja_cons j_int ja_nil)))) (ja_cons (j_frz (j_call (ok_law_draw T) (hr.mono (by omega)) rfl T.g_law_draw T.F_law_draw.kp T.b_law_draw (pxT tk) (ja_cons (j_var 0) (ja_cons j_int ja_nil)))) ja_nil)))))) jss_nil)
    (jss_one (js_ret (j_lst false (ja_cons j_str (ja_cons (j_op o_add (p_add true) j_int (j_frz (j_call (ok_law_draw T) (hr.mono (by omega)) rfl T.g_law_draw T.F_law_draw.kp T.b_law_draw (pxT tk) (ja_cons (j_var 0) (ja_cons j_int ja_nil))))) (ja_cons (j_op o_add (p_add true) j_int (j_frz (j_call (ok_law_draw T) (hr.mono (by omega)) rfl T.g_law_draw T.F_law_draw.kp T.b_law_draw (pxT tk) (ja_cons (j_var 0) (ja_cons j_int ja_nil))))) (ja_cons (j_frz (j_call (ok_law_draw T) (hr.mono (by omega)) rfl T.g_law_draw T.F_law_draw.kp T.b_law_draw (pxT tk) (ja_cons (j_var 0) (ja_cons j_int ja_nil)))) ja_nil)))))))))))
theorem okR_law_wish (T : Tx K mg a) : ∀ n, FnOk P w K mg base (L2N.CX P w) (2 + n) a.f_law_wish a.d_law_wish ["_law_pool", "_law_deep"] (liftSp K 2 (C_law_wish n))
  | 0 => fn_none fun _ _ _ _ => no_law_wish
  | n + 1 => ok_law_wish T n (okR_law_wish T n)
theorem sc_law_text : FnScope N_law_text ["_law_tree"] (defScope s_law_text) := ⟨rfl, rfl, rfl, by decide +kernel, rfl, by decide +kernel, by decide +kernel⟩
theorem ok_law_text (T : Tx K mg a) (n : Nat) (ih : FnOk P w K mg base (L2N.CX P w) (1 + n) a.f_law_text a.d_law_text ["_law_tree"] (liftSp K 1 (C_law_text n))) : FnOk P w K mg base (L2N.CX P w) (1 + n + 1) a.f_law_text a.d_law_text ["_law_tree"] (liftSp K 1 (C_law_text (n + 1))) := by
  refine fn_ok T.F_law_text sc_law_text (by decide) (fun cdv A outer s H E hr => ?_) (pl_law_text T n)
  have tk : L2N.Takes (cxOf (L2N.CX P w) P w K mg base N_law_text "_law_text" (defScope s_law_text) a.f_law_text cdv A outer s H E) (fun cls d _ H => E cls d H) := L2N.takes_of rfl rfl rfl rfl
  exact (jss_cons (js_if (jt_cmp op_notIn_seq p_inS (j_ix (j_var 0) j_int) (j_pure (t := .tup [.str "&", .str "|"]) (j_tup (ja_cons j_str (ja_cons j_str ja_nil))) (pu_tup (pa_c pu_c (pa_c pu_c pa_n)) (by decide))) (by rfl)) (jss_one (js_ret (j_bm PySem.F.plainAttrs_str PySem.F.slot_str_join PySem.F.type_str_join mt_join ty_str c_join j_str (ja_cons (j_lc true (own := [("_law_part", 1)]) rfl sc_law_text.nd (ct_name (by decide)) (ji_seq (j_var 0)) (blkOk_by (N := N_law_text) (sc := (defScope s_law_text)) (by decide +kernel)) (fun _ _ _ _ _ => (pg_name (i := 1) sc_law_text.nd rfl (by first | exact Or.inl rfl | exact Or.inr rfl))) (fun _ _ _ _ _ => jts_nil) (fun _ _ _ _ _ => (j_cty (cr_or call_str_int SkE.call_str_str) c_strC rfl T.z_str (by decide +kernel) (ja_cons (j_var 1) ja_nil)))) ja_nil)))) jss_nil)
    (jss_one (js_ret (j_op o_add (p_add false) (j_op o_add (p_add true) (j_op o_add (p_add true) (j_op o_add (p_add true) (j_op o_add (p_add true) (j_op o_add (p_add true) j_str (j_frz (j_call ih (hr.mono (by omega)) rfl T.g_law_text T.F_law_text.kp T.b_law_text (pxT tk) (ja_cons (j_ix (j_var 0) j_int) ja_nil)))) j_str) (j_ix (j_var 0) j_int)) j_str) (j_frz (j_call ih (hr.mono (by omega)) rfl T.g_law_text T.F_law_text.kp T.b_law_text (pxT tk) (ja_cons (j_ix (j_var 0) j_int) ja_nil)))) j_str))))
theorem okR_law_text (T : Tx K mg a) : ∀ n, FnOk P w K mg base (L2N.CX P w) (1 + n) a.f_law_text a.d_law_text ["_law_tree"] (liftSp K 1 (C_law_text n))
  | 0 => fn_none fun _ _ _ _ => no_law_text
  | n + 1 => ok_law_text T n (okR_law_text T n)
theorem sc_givings : FnScope N_givings ["book", "size"] (defScope s_givings) := ⟨rfl, rfl, rfl, by decide +kernel, rfl, by decide +kernel, by decide +kernel⟩
theorem ok_givings (T : Tx K mg a) : FnOk P w K mg base (L2N.CX P w) 6 a.f_givings a.d_givings ["book", "size"] (liftSp K 2 (C_givings a)) := by
  refine fn_ok T.F_givings sc_givings (by decide) (fun cdv A outer s H E hr => ?_) (pl_givings T)
  have tk : L2N.Takes (cxOf (L2N.CX P w) P w K mg base N_givings "givings" (defScope s_givings) a.f_givings cdv A outer s H E) (fun cls d _ H => E cls d H) := L2N.takes_of rfl rfl rfl rfl
  exact (jss_cons (js_expr (j_frz (j_call (ok_check_integer T) (hr.mono (by decide)) rfl T.g_check_integer T.F_check_integer.kp T.b_check_integer (pxT tk) (ja_cons (j_var 1) (ja_cons j_int (ja_cons (j_globI rfl (T.c_MOST_NUMBER).choose_spec) ja_nil))))))
    (jss_cons (js_set (i := 2) sc_givings.nd rfl (by first | exact Or.inl rfl | exact Or.inr rfl) (j_frz (j_call (ok_ramp T) (hr.mono (by decide)) rfl T.g_ramp T.F_ramp.kp T.b_ramp (pxT tk) (ja_cons (j_var 0) ja_nil))))
    (jss_cons (js_if (jt_cmp op_le p_le (j_var 1) (j_ix (j_var 2) (j_pure (t := .int (-1)) (j_neg j_int) (pu_neg pu_c))) (nomark _)) (jss_one (js_ret (j_cb call_len c_len rfl T.z_len (by decide +kernel) (ja_cons (j_lc true (own := [("end", 3)]) rfl sc_givings.nd (ct_name (by decide)) (ji_seq (j_var 2)) (blkOk_by (N := N_givings) (sc := (defScope s_givings)) (by decide +kernel)) (fun _ _ _ _ _ => (pg_name (i := 3) sc_givings.nd rfl (by first | exact Or.inl rfl | exact Or.inr rfl))) (fun _ _ _ _ _ => (jts_one (jt_cmp op_lt p_lt (j_var 3) (j_var 1) (nomark _)))) (fun _ _ _ _ _ => (j_var 3))) ja_nil)))) jss_nil)
    (jss_one (js_ret (j_op o_add (p_add false) (j_cb call_len c_len rfl T.z_len (by decide +kernel) (ja_cons (j_var 2) ja_nil)) (j_op op_fdivW p_div (j_op op_sub p_sub (j_op op_sub p_sub (j_var 1) (j_ix (j_var 2) (j_pure (t := .int (-1)) (j_neg j_int) (pu_neg pu_c)))) j_int) (j_prop rfl rfl T.cl_Book T.pr_Book_roof (ok_Book_roof T) (hr.mono (by decide)) T.b_Book_roof (j_var 0)))))))))
theorem sc_fullest : FnScope N_fullest ["book", "blocks", "files"] (defScope s_fullest) := ⟨rfl, rfl, rfl, by decide +kernel, rfl, by decide +kernel, by decide +kernel⟩
theorem ok_fullest (T : Tx K mg a) : FnOk P w K mg base (L2N.CX P w) 6 a.f_fullest a.d_fullest ["book", "blocks", "files"] (liftSp K 3 (C_fullest a)) := by
  refine fn_ok T.F_fullest sc_fullest (by decide) (fun cdv A outer s H E hr => ?_) (pl_fullest T)
  have tk : L2N.Takes (cxOf (L2N.CX P w) P w K mg base N_fullest "fullest" (defScope s_fullest) a.f_fullest cdv A outer s H E) (fun cls d _ H => E cls d H) := L2N.takes_of rfl rfl rfl rfl
  exact (jss_cons (js_set (i := 3) sc_fullest.nd rfl (by first | exact Or.inl rfl | exact Or.inr rfl) (j_frz (j_call (ok_layers T) (hr.mono (by decide)) rfl T.g_layers T.F_layers.kp T.b_layers (pxT tk) (ja_cons (j_frz (j_call (ok_whole_choices T) (hr.mono (by decide)) rfl T.g_whole_choices T.F_whole_choices.kp T.b_whole_choices (pxT tk) (ja_cons (j_var 0) (ja_cons (j_var 1) ja_nil)))) (ja_cons (j_var 1) (ja_cons (j_var 2) ja_nil))))))
    (jss_cons (js_set (i := 4) sc_fullest.nd rfl (by first | exact Or.inl rfl | exact Or.inr rfl) (j_pure (t := .tup [.int 0, .int 0, .lst []]) (j_tup (ja_cons j_int (ja_cons j_int (ja_cons (j_pure (t := .lst []) (j_lst true ja_nil) (pu_lst pa_n (by decide))) ja_nil)))) (pu_tup (pa_c pu_c (pa_c pu_c (pa_c pu_c pa_n))) (by decide))))
    (jss_cons (js_for (passes_of rfl) rfl (ji_enum rfl T.z_enumerate (ja_cons (j_ix (j_var 3) (j_var 2)) ja_nil)) (jg_tup rfl (jgs_cons (jg_name (i := 5) sc_fullest.nd rfl (by first | exact Or.inl rfl | exact Or.inr rfl)) (jgs_cons (jg_name (i := 6) sc_fullest.nd rfl (by first | exact Or.inl rfl | exact Or.inr rfl)) jgs_nil))) (jss_one (js_if (jt_w (jw_and (jt_cmp op_notN p_notN (j_var 6) j_non (nomark _)) (jw_and1 (jt_cmp op_gt p_gt (j_ix (j_var 6) j_int) (j_ix (j_var 4) j_int) (nomark _))))) (jss_one (js_set (i := 4) sc_fullest.nd rfl (by first | exact Or.inl rfl | exact Or.inr rfl) (j_tup (ja_cons (j_ix (j_var 6) j_int) (ja_cons (j_var 5) (ja_cons (j_frz (j_call (ok_growths_at T) (hr.mono (by decide)) rfl T.g_growths_at T.F_growths_at.kp T.b_growths_at (pxT tk) (ja_cons (j_var 3) (ja_cons (j_var 2) (ja_cons (j_var 5) ja_nil))))) ja_nil)))))) jss_nil)))
    (jss_cons (js_if (jt_cmp (op_eqD hr.units) p_eq (j_var 2) j_int (nomark _)) (jss_one (js_ret (j_var 4))) jss_nil)
    (jss_cons (js_for (passes_of rfl) rfl (ji_seq (j_frz (j_call (ok_short_choices T) (hr.mono (by decide)) rfl T.g_short_choices T.F_short_choices.kp T.b_short_choices (pxT tk) (ja_cons (j_var 0) (ja_cons (j_var 1) ja_nil))))) (jg_tup rfl (jgs_cons (jg_name (i := 7) sc_fullest.nd rfl (by first | exact Or.inl rfl | exact Or.inr rfl)) (jgs_cons (jg_name (i := 8) sc_fullest.nd rfl (by first | exact Or.inl rfl | exact Or.inr rfl)) (jgs_cons (jg_name (i := 9) sc_fullest.nd rfl (by first | exact Or.inl rfl | exact Or.inr rfl)) jgs_nil)))) (jss_cons (js_set (i := 10) sc_fullest.nd rfl (by first | exact Or.inl rfl | exact Or.inr rfl) (j_ix (j_ix (j_var 3) (j_op op_sub p_sub (j_var 2) j_int)) (j_op op_sub p_sub (j_var 1) (j_var 7))))
    (jss_one (js_if (jt_w (jw_and (jt_cmp op_notN p_notN (j_var 10) j_non (nomark _)) (jw_and1 (jt_cmp op_gt p_gt (j_op o_add (p_add true) (j_ix (j_var 10) j_int) (j_var 8)) (j_ix (j_var 4) j_int) (nomark _))))) (jss_one (js_set (i := 4) sc_fullest.nd rfl (by first | exact Or.inl rfl | exact Or.inr rfl) (j_tup (ja_cons (j_op o_add (p_add true) (j_ix (j_var 10) j_int) (j_var 8)) (ja_cons (j_var 1) (ja_cons (j_op o_add (p_add true) (j_frz (j_call (ok_growths_at T) (hr.mono (by decide)) rfl T.g_growths_at T.F_growths_at.kp T.b_growths_at (pxT tk) (ja_cons (j_var 3) (ja_cons (j_op op_sub p_sub (j_var 2) j_int) (ja_cons (j_op op_sub p_sub (j_var 1) (j_var 7)) ja_nil))))) (j_lst true (ja_cons (j_var 9) ja_nil))) ja_nil)))))) jss_nil))))
    (jss_one (js_ret (j_var 4))))))))
theorem sc_Wish___eq__ : FnScope N_Wish___eq__ ["self", "other"] (defScope s_Wish___eq__) := ⟨rfl, rfl, rfl, by decide +kernel, rfl, by decide +kernel, by decide +kernel⟩
theorem ok_Wish___eq__ (T : Tx K mg a) : FnOk P w K mg base (L2N.CX P w) 6 a.f_Wish___eq__ a.d_Wish___eq__ ["self", "other"] (liftSp K 2 (C_Wish___eq__ a)) := by
  refine fn_ok T.F_Wish___eq__ sc_Wish___eq__ (by decide) (fun cdv A outer s H E hr => ?_) (pl_Wish___eq__ T)
  have tk : L2N.Takes (cxOf (L2N.CX P w) P w K mg base N_Wish___eq__ "Wish.__eq__" (defScope s_Wish___eq__) a.f_Wish___eq__ cdv A outer s H E) (fun cls d _ H => E cls d H) := L2N.takes_of rfl rfl rfl rfl
  exact (jss_one (js_ret (j_and (j_cb call_isi c_isiC rfl T.z_isinstance (by decide +kernel) (ja_cons (j_var 1) (ja_cons (j_globR rfl T.g_Wish) ja_nil))) (j_one (j_cmp (op_eqD hr.units) p_eq (j_frz (j_methD0 (dsp_shown T 4) (hr.mono (by decide)) (pxT tk) (j_var 0))) (j_frz (j_methD0 (dsp_shown T 4) (hr.mono (by decide)) (pxT tk) (j_var 1))) (nomark _))))))
theorem sc_LittleIdle___call__ : FnScope N_LittleIdle___call__ ["self", "book"] (defScope s_LittleIdle___call__) := ⟨rfl, rfl, rfl, by decide +kernel, rfl, by decide +kernel, by decide +kernel⟩
theorem ok_LittleIdle___call__ (T : Tx K mg a) : FnOk P w K mg base (L2N.CX P w) 6 a.f_LittleIdle___call__ a.d_LittleIdle___call__ ["self", "book"] (liftSp K 2 (C_LittleIdle___call__ a)) := by
  refine fn_ok T.F_LittleIdle___call__ sc_LittleIdle___call__ (by decide) (fun cdv A outer s H E hr => ?_) (pl_LittleIdle___call__ T)
  have tk : L2N.Takes (cxOf (L2N.CX P w) P w K mg base N_LittleIdle___call__ "LittleIdle.__call__" (defScope s_LittleIdle___call__) a.f_LittleIdle___call__ cdv A outer s H E) (fun cls d _ H => E cls d H) := L2N.takes_of rfl rfl rfl rfl
  exact (jss_one (js_ret (j_cmp op_le p_le (j_frz (j_call (ok_most_idle T) (hr.mono (by decide)) rfl T.g_most_idle T.F_most_idle.kp T.b_most_idle (pxT tk) (ja_cons (j_var 1) (ja_cons (j_fld T.cl_LittleIdle T.na_LittleIdle_size (j_var 0)) ja_nil)))) (j_fld T.cl_LittleIdle T.na_LittleIdle_most (j_var 0)) (nomark _))))
theorem sc_law_book : FnScope N_law_book ["_law_parts_here"] (defScope s_law_book) := ⟨rfl, rfl, rfl, by decide +kernel, rfl, by decide +kernel, by decide +kernel⟩
theorem ok_law_book (T : Tx K mg a) : FnOk P w K mg base (L2N.CX P w) 6 a.f_law_book a.d_law_book ["_law_parts_here"] (liftSp K 1 (C_law_book a)) := by
  refine fn_ok T.F_law_book sc_law_book (by decide) (fun cdv A outer s H E hr => ?_) (pl_law_book T)
  have tk : L2N.Takes (cxOf (L2N.CX P w) P w K mg base N_law_book "_law_book" (defScope s_law_book) a.f_law_book cdv A outer s H E) (fun cls d _ H => E cls d H) := L2N.takes_of rfl rfl rfl rfl
  exact (jss_one (js_ret (j_makeX (n := 2) T.mk_Book (ok_Book___init__ T) (hr.mono (by decide)) rfl T.g_Book T.kb1_Book___init__ (pxT tk) (ja_cons (j_ix (j_var 0) j_int) (ja_cons (j_ix (j_var 0) j_int) ja_nil)) (jk_cons (j_ix (j_var 0) j_int) jk_nil))))
theorem sc_most_pieces : FnScope N_most_pieces ["book", "size", "back"] (defScope s_most_pieces) := ⟨rfl, rfl, rfl, by decide +kernel, rfl, by decide +kernel, by decide +kernel⟩
theorem ok_most_pieces (T : Tx K mg a) : FnOk P w K mg base (L2N.CX P w) 7 a.f_most_pieces a.d_most_pieces ["book", "size", "back"] (liftSp K 3 (C_most_pieces a)) := by
  refine fn_ok T.F_most_pieces sc_most_pieces (by decide) (fun cdv A outer s H E hr => ?_) (pl_most_pieces T)
  have tk : L2N.Takes (cxOf (L2N.CX P w) P w K mg base N_most_pieces "most_pieces" (defScope s_most_pieces) a.f_most_pieces cdv A outer s H E) (fun cls d _ H => E cls d H) := L2N.takes_of rfl rfl rfl rfl
  exact (jss_cons (js_set (i := 3) sc_most_pieces.nd rfl (by first | exact Or.inl rfl | exact Or.inr rfl) (j_frz (j_call (ok_givings T) (hr.mono (by decide)) rfl T.g_givings T.F_givings.kp T.b_givings (pxT tk) (ja_cons (j_var 0) (ja_cons (j_var 1) ja_nil)))))
    (jss_cons (js_if (jt_not (jt_tru (j_cb call_isi c_isi rfl T.z_isinstance (by decide +kernel) (ja_cons (j_var 2) (ja_cons (j_ty rfl T.z_bool (by decide +kernel)) ja_nil))))) (jss_one (js_raise T.o_InvalidNumber T.i_InvalidNumber T.t_InvalidNumber (okI_InvalidNumber T) T.BI_InvalidNumber (hr.mono (by decide)) rfl tk rfl T.g_InvalidNumber (ja_cons (j_var 2) ja_nil))) jss_nil)
    (jss_one (js_ret (j_if (jt_tru (j_var 2)) (j_var 1) (j_var 3))))))
theorem sc_least_refused : FnScope N_least_refused ["book", "blocks", "files"] (defScope s_least_refused) := ⟨rfl, rfl, rfl, by decide +kernel, rfl, by decide +kernel, by decide +kernel⟩
theorem ok_least_refused (T : Tx K mg a) : FnOk P w K mg base (L2N.CX P w) 7 a.f_least_refused a.d_least_refused ["book", "blocks", "files"] (liftSp K 3 (C_least_refused a)) := by
  refine fn_ok T.F_least_refused sc_least_refused (by decide) (fun cdv A outer s H E hr => ?_) (pl_least_refused T)
  have tk : L2N.Takes (cxOf (L2N.CX P w) P w K mg base N_least_refused "least_refused" (defScope s_least_refused) a.f_least_refused cdv A outer s H E) (fun cls d _ H => E cls d H) := L2N.takes_of rfl rfl rfl rfl
  exact (jss_cons (js_expr (j_frz (j_call (ok_check_blocks T) (hr.mono (by decide)) rfl T.g_check_blocks T.F_check_blocks.kp T.b_check_blocks (pxT tk) (ja_cons (j_var 1) (ja_cons (j_var 2) (ja_cons j_int ja_nil))))))
    (jss_one (js_ret (j_op op_sub p_sub (j_op o_add (p_add true) (j_var 1) j_int) (j_ix (j_frz (j_call (ok_fullest T) (hr.mono (by decide)) rfl T.g_fullest T.F_fullest.kp T.b_fullest (pxT tk) (ja_cons (j_var 0) (ja_cons (j_var 1) (ja_cons (j_op op_sub p_sub (j_var 2) j_int) ja_nil))))) j_int)))))
theorem sc_law_refused : FnScope N_law_refused ["_law_door", "_law_numbers"] (defScope s_law_refused) := ⟨rfl, rfl, rfl, by decide +kernel, rfl, by decide +kernel, by decide +kernel⟩
theorem ok_law_refused (T : Tx K mg a) : FnOk P w K mg base (L2N.CX P w) 7 a.f_law_refused a.d_law_refused ["_law_door", "_law_numbers"] (liftSp K 2 (C_law_refused a)) := by
  refine fn_ok T.F_law_refused sc_law_refused (by decide) (fun cdv A outer s H E hr => ?_) (pl_law_refused T)
  have tk : L2N.Takes (cxOf (L2N.CX P w) P w K mg base N_law_refused "_law_refused" (defScope s_law_refused) a.f_law_refused cdv A outer s H E) (fun cls d _ H => E cls d H) := L2N.takes_of rfl rfl rfl rfl
  exact (jss_cons (js_try rfl rfl sc_law_refused.nd rfl rfl (names_own rfl T.g_GrowError) tk (fun _ _ _ tk hp => (jss_one (js_if (jt_cmp (op_eqD hr.units) p_eq (j_var 0) j_int (nomark _)) (jss_one (js_expr (j_frz (j_make (n := 2) T.mk_FewPieces (ok_FewPieces___init__ T) (hr.mono (by decide)) rfl T.g_FewPieces T.KB_FewPieces___init__ (pxT tk) (ja_cons (j_ix (j_var 1) j_int) (ja_cons (j_ix (j_var 1) j_int) ja_nil)) jk_nil)))) (jss_one (js_if (jt_cmp (op_eqD hr.units) p_eq (j_var 0) j_int (nomark _)) (jss_one (js_expr (j_frz (j_make (n := 2) T.mk_LittleIdle (ok_LittleIdle___init__ T) (hr.mono (by decide)) rfl T.g_LittleIdle T.KB_LittleIdle___init__ (pxT tk) (ja_cons (j_ix (j_var 1) j_int) (ja_cons (j_ix (j_var 1) j_int) ja_nil)) jk_nil)))) (jss_one (js_expr (j_frz (j_make (n := 3) T.mk_NoRefusal (ok_NoRefusal___init__ T) (hr.mono (by decide)) rfl T.g_NoRefusal T.KB_NoRefusal___init__ (pxT tk) (ja_cons (j_ix (j_var 1) j_int) (ja_cons (j_ix (j_var 1) j_int) (ja_cons (j_ix (j_var 1) j_int) ja_nil))) jk_nil))))))))) (fun ea oe ecls ed pn hz hf => (jss_one (js_ret (j_and (j_cb (call_is2 hz hf) c_isE rfl T.z_isinstance (by decide +kernel) (ja_cons (j_var 2) (ja_cons (j_globR rfl T.g_InvalidNumber) ja_nil))) (j_and (j_not (j_cb (call_is2 hz hf) c_isE rfl T.z_isinstance (by decide +kernel) (ja_cons (j_var 2) (ja_cons (j_globR rfl T.g_InvalidChoice) ja_nil)))) (j_one (j_cb call_repr c_repr rfl T.z_repr (by decide +kernel) (ja_cons (j_xf hz hf (j_var 2)) ja_nil)))))))))
    (jss_one (js_ret j_non)))
theorem sc_never_refused : FnScope N_never_refused ["book", "blocks", "files"] (defScope s_never_refused) := ⟨rfl, rfl, rfl, by decide +kernel, rfl, by decide +kernel, by decide +kernel⟩
theorem ok_never_refused (T : Tx K mg a) : FnOk P w K mg base (L2N.CX P w) 8 a.f_never_refused a.d_never_refused ["book", "blocks", "files"] (liftSp K 3 (C_never_refused a)) := by
  refine fn_ok T.F_never_refused sc_never_refused (by decide) (fun cdv A outer s H E hr => ?_) (pl_never_refused T)
  have tk : L2N.Takes (cxOf (L2N.CX P w) P w K mg base N_never_refused "never_refused" (defScope s_never_refused) a.f_never_refused cdv A outer s H E) (fun cls d _ H => E cls d H) := L2N.takes_of rfl rfl rfl rfl
  exact (jss_one (js_ret (j_op op_sub p_sub (j_frz (j_call (ok_least_refused T) (hr.mono (by decide)) rfl T.g_least_refused T.F_least_refused.kp T.b_least_refused (pxT tk) (ja_cons (j_var 0) (ja_cons (j_var 1) (ja_cons (j_var 2) ja_nil))))) j_int)))
theorem sc_FewPieces___call__ : FnScope N_FewPieces___call__ ["self", "book"] (defScope s_FewPieces___call__) := ⟨rfl, rfl, rfl, by decide +kernel, rfl, by decide +kernel, by decide +kernel⟩
theorem ok_FewPieces___call__ (T : Tx K mg a) : FnOk P w K mg base (L2N.CX P w) 8 a.f_FewPieces___call__ a.d_FewPieces___call__ ["self", "book"] (liftSp K 2 (C_FewPieces___call__ a)) := by
  refine fn_ok T.F_FewPieces___call__ sc_FewPieces___call__ (by decide) (fun cdv A outer s H E hr => ?_) (pl_FewPieces___call__ T)
  have tk : L2N.Takes (cxOf (L2N.CX P w) P w K mg base N_FewPieces___call__ "FewPieces.__call__" (defScope s_FewPieces___call__) a.f_FewPieces___call__ cdv A outer s H E) (fun cls d _ H => E cls d H) := L2N.takes_of rfl rfl rfl rfl
  exact (jss_one (js_ret (j_cmp op_le p_le (j_frz (j_callK (ok_most_pieces T) (hr.mono (by decide)) rfl T.g_most_pieces T.F_most_pieces.kp T.kb0_most_pieces (pxT tk) (ja_cons (j_var 1) (ja_cons (j_fld T.cl_FewPieces T.na_FewPieces_size (j_var 0)) ja_nil)) jk_nil)) (j_fld T.cl_FewPieces T.na_FewPieces_most (j_var 0)) (nomark _))))
theorem sc_law_odd : FnScope N_law_odd [] (defScope s_law_odd) := ⟨rfl, rfl, rfl, by decide +kernel, rfl, by decide +kernel, by decide +kernel⟩
theorem ok_law_odd (T : Tx K mg a) : FnOk P w K mg base (L2N.CX P w) 8 a.f_law_odd a.d_law_odd [] (liftSp K 0 C_law_odd) := by
  refine fn_ok T.F_law_odd sc_law_odd (by decide) (fun cdv A outer s H E hr => ?_) (pl_law_odd T)
  have tk : L2N.Takes (cxOf (L2N.CX P w) P w K mg base N_law_odd "_law_odd" (defScope s_law_odd) a.f_law_odd cdv A outer s H E) (fun cls d _ H => E cls d H) := L2N.takes_of rfl rfl rfl rfl
  exact (jss_cons (js_for (passes_of rfl) rfl (ji_seq (j_pure (t := .lst [.non, .bl true, .int (0 - 1), .str "1", .int ((10 ^ 30) + 1)]) (j_lst true (ja_cons j_non (ja_cons j_bl (ja_cons (j_pure (t := .int (0 - 1)) (j_op op_sub p_sub j_int j_int) (pu_sub pu_c pu_c)) (ja_cons j_str (ja_cons (j_pure (t := .int ((10 ^ 30) + 1)) (j_op o_add (p_add true) (j_pure (t := .int (10 ^ 30)) (j_op op_pow p_pow j_int j_int) (pu_pow pu_c pu_c (by decide))) j_int) (pu_add pu_c pu_c)) ja_nil)))))) (pu_lst (pa_c pu_c (pa_c pu_c (pa_c pu_c (pa_c pu_c (pa_c pu_c pa_n))))) (by decide)))) (jg_name (i := 0) sc_law_odd.nd rfl (by first | exact Or.inl rfl | exact Or.inr rfl)) (jss_cons (js_for (passes_of rfl) rfl (ji_range1 rfl T.z_range (ja_cons j_int ja_nil)) (jg_name (i := 1) sc_law_odd.nd rfl (by first | exact Or.inl rfl | exact Or.inr rfl)) (jss_one (js_if (jt_w (jw_or (jt_cmp (op_neD hr.units) p_ne (j_frz (j_call (ok_law_refused T) (hr.mono (by decide)) rfl T.g_law_refused T.F_law_refused.kp T.b_law_refused (pxT tk) (ja_cons (j_var 1) (ja_cons (j_lst true (ja_cons (j_var 0) (ja_cons j_non ja_nil))) ja_nil)))) (j_cb call_repr c_repr rfl T.z_repr (by decide +kernel) (ja_cons (j_var 0) ja_nil)) (nomark _)) (jw_or1 (jt_cmp (op_neD hr.units) p_ne (j_frz (j_call (ok_law_refused T) (hr.mono (by decide)) rfl T.g_law_refused T.F_law_refused.kp T.b_law_refused (pxT tk) (ja_cons (j_var 1) (ja_cons (j_lst true (ja_cons j_int (ja_cons (j_var 0) ja_nil))) ja_nil)))) (j_cb call_repr c_repr rfl T.z_repr (by decide +kernel) (ja_cons (j_var 0) ja_nil)) (nomark _))))) (jss_one (js_ret j_bl)) jss_nil)))
    (jss_cons (js_if (jt_w (jw_or (jt_cmp (op_neD hr.units) p_ne (j_frz (j_call (ok_law_refused T) (hr.mono (by decide)) rfl T.g_law_refused T.F_law_refused.kp T.b_law_refused (pxT tk) (ja_cons j_int (ja_cons (j_lst true (ja_cons (j_var 0) (ja_cons j_non (ja_cons j_non ja_nil)))) ja_nil)))) (j_cb call_repr c_repr rfl T.z_repr (by decide +kernel) (ja_cons (j_var 0) ja_nil)) (nomark _)) (jw_or1 (jt_cmp (op_neD hr.units) p_ne (j_frz (j_call (ok_law_refused T) (hr.mono (by decide)) rfl T.g_law_refused T.F_law_refused.kp T.b_law_refused (pxT tk) (ja_cons j_int (ja_cons (j_lst true (ja_cons j_int (ja_cons (j_var 0) (ja_cons j_non ja_nil)))) ja_nil)))) (j_cb call_repr c_repr rfl T.z_repr (by decide +kernel) (ja_cons (j_var 0) ja_nil)) (nomark _))))) (jss_one (js_ret j_bl)) jss_nil)
    (jss_one (js_if (jt_cmp (op_neD hr.units) p_ne (j_frz (j_call (ok_law_refused T) (hr.mono (by decide)) rfl T.g_law_refused T.F_law_refused.kp T.b_law_refused (pxT tk) (ja_cons j_int (ja_cons (j_lst true (ja_cons j_int (ja_cons j_int (ja_cons (j_var 0) ja_nil)))) ja_nil)))) (j_cb call_repr c_repr rfl T.z_repr (by decide +kernel) (ja_cons (j_var 0) ja_nil)) (nomark _)) (jss_one (js_ret j_bl)) jss_nil)))))
    (jss_cons (js_for (passes_of rfl) rfl (ji_seq (j_pure (t := .lst [.tup [.lst [.int 0, .int 1, .int 1], .int 0], .tup [.lst [.int 301, .int 1, .int 1], .int 0], .tup [.lst [.int 7, .int 0, .int 1], .int 1], .tup [.lst [.int 7, .int 9, .int 1], .int 1], .tup [.lst [.int 7, .int 2, .int 301], .int 2]]) (j_lst true (ja_cons (j_pure (t := .tup [.lst [.int 0, .int 1, .int 1], .int 0]) (j_tup (ja_cons (j_pure (t := .lst [.int 0, .int 1, .int 1]) (j_lst true (ja_cons j_int (ja_cons j_int (ja_cons j_int ja_nil)))) (pu_lst (pa_c pu_c (pa_c pu_c (pa_c pu_c pa_n))) (by decide))) (ja_cons j_int ja_nil))) (pu_tup (pa_c pu_c (pa_c pu_c pa_n)) (by decide))) (ja_cons (j_pure (t := .tup [.lst [.int 301, .int 1, .int 1], .int 0]) (j_tup (ja_cons (j_pure (t := .lst [.int 301, .int 1, .int 1]) (j_lst true (ja_cons j_int (ja_cons j_int (ja_cons j_int ja_nil)))) (pu_lst (pa_c pu_c (pa_c pu_c (pa_c pu_c pa_n))) (by decide))) (ja_cons j_int ja_nil))) (pu_tup (pa_c pu_c (pa_c pu_c pa_n)) (by decide))) (ja_cons (j_pure (t := .tup [.lst [.int 7, .int 0, .int 1], .int 1]) (j_tup (ja_cons (j_pure (t := .lst [.int 7, .int 0, .int 1]) (j_lst true (ja_cons j_int (ja_cons j_int (ja_cons j_int ja_nil)))) (pu_lst (pa_c pu_c (pa_c pu_c (pa_c pu_c pa_n))) (by decide))) (ja_cons j_int ja_nil))) (pu_tup (pa_c pu_c (pa_c pu_c pa_n)) (by decide))) (ja_cons (j_pure (t := .tup [.lst [.int 7, .int 9, .int 1], .int 1]) (j_tup (ja_cons (j_pure (t := .lst [.int 7, .int 9, .int 1]) (j_lst true (ja_cons j_int (ja_cons j_int (ja_cons j_int ja_nil)))) (pu_lst (pa_c pu_c (pa_c pu_c (pa_c pu_c pa_n))) (by decide))) (ja_cons j_int ja_nil))) (pu_tup (pa_c pu_c (pa_c pu_c pa_n)) (by decide))) (ja_cons (j_pure (t := .tup [.lst [.int 7, .int 2, .int 301], .int 2]) (j_tup (ja_cons (j_pure (t := .lst [.int 7, .int 2, .int 301]) (j_lst true (ja_cons j_int (ja_cons j_int (ja_cons j_int ja_nil)))) (pu_lst (pa_c pu_c (pa_c pu_c (pa_c pu_c pa_n))) (by decide))) (ja_cons j_int ja_nil))) (pu_tup (pa_c pu_c (pa_c pu_c pa_n)) (by decide))) ja_nil)))))) (pu_lst (pa_c pu_c (pa_c pu_c (pa_c pu_c (pa_c pu_c (pa_c pu_c pa_n))))) (by decide)))) (jg_tup rfl (jgs_cons (jg_name (i := 2) sc_law_odd.nd rfl (by first | exact Or.inl rfl | exact Or.inr rfl)) (jgs_cons (jg_name (i := 3) sc_law_odd.nd rfl (by first | exact Or.inl rfl | exact Or.inr rfl)) jgs_nil))) (jss_one (js_if (jt_cmp (op_neD hr.units) p_ne (j_frz (j_call (ok_law_refused T) (hr.mono (by decide)) rfl T.g_law_refused T.F_law_refused.kp T.b_law_refused (pxT tk) (ja_cons j_int (ja_cons (j_var 2) ja_nil)))) (j_cb call_repr c_repr rfl T.z_repr (by decide +kernel) (ja_cons (j_ix (j_var 2) (j_var 3)) ja_nil)) (nomark _)) (jss_one (js_ret j_bl)) jss_nil)))
    (jss_one (js_ret j_bl))))
theorem sc_NoRefusal___call__ : FnScope N_NoRefusal___call__ ["self", "book"] (defScope s_NoRefusal___call__) := ⟨rfl, rfl, rfl, by decide +kernel, rfl, by decide +kernel, by decide +kernel⟩
theorem ok_NoRefusal___call__ (T : Tx K mg a) : FnOk P w K mg base (L2N.CX P w) 9 a.f_NoRefusal___call__ a.d_NoRefusal___call__ ["self", "book"] (liftSp K 2 (C_NoRefusal___call__ a)) := by
  refine fn_ok T.F_NoRefusal___call__ sc_NoRefusal___call__ (by decide) (fun cdv A outer s H E hr => ?_) (pl_NoRefusal___call__ T)
  have tk : L2N.Takes (cxOf (L2N.CX P w) P w K mg base N_NoRefusal___call__ "NoRefusal.__call__" (defScope s_NoRefusal___call__) a.f_NoRefusal___call__ cdv A outer s H E) (fun cls d _ H => E cls d H) := L2N.takes_of rfl rfl rfl rfl
  exact (jss_one (js_ret (j_cmp op_ge p_ge (j_frz (j_call (ok_never_refused T) (hr.mono (by decide)) rfl T.g_never_refused T.F_never_refused.kp T.b_never_refused (pxT tk) (ja_cons (j_var 1) (ja_cons (j_fld T.cl_NoRefusal T.na_NoRefusal_blocks (j_var 0)) (ja_cons (j_fld T.cl_NoRefusal T.na_NoRefusal_files (j_var 0)) ja_nil))))) (j_fld T.cl_NoRefusal T.na_NoRefusal_at_least (j_var 0)) (nomark _))))
theorem sc_law_wished : FnScope N_law_wished ["_law_tree"] (defScope s_law_wished) := ⟨rfl, rfl, rfl, by decide +kernel, rfl, by decide +kernel, by decide +kernel⟩
theorem ok_law_wished (T : Tx K mg a) (n : Nat) (ih : FnOk P w K mg base (L2N.CX P w) (7 + n) a.f_law_wished a.d_law_wished ["_law_tree"] (liftSp K 1 (C_law_wished a n))) : FnOk P w K mg base (L2N.CX P w) (7 + n + 1) a.f_law_wished a.d_law_wished ["_law_tree"] (liftSp K 1 (C_law_wished a (n + 1))) := by
  refine fn_ok T.F_law_wished sc_law_wished (by decide) (fun cdv A outer s H E hr => ?_) (pl_law_wished T n)
  have tk : L2N.Takes (cxOf (L2N.CX P w) P w K mg base N_law_wished "_law_wished" (defScope s_law_wished) a.f_law_wished cdv A outer s H E) (fun cls d _ H => E cls d H) := L2N.takes_of rfl rfl rfl rfl
  exact (jss_cons (js_if (jt_cmp (op_eqD hr.units) p_eq (j_ix (j_var 0) j_int) j_str (nomark _)) (jss_one (js_ret (j_make (n := 2) T.mk_FewPieces (ok_FewPieces___init__ T) (hr.mono (by omega)) rfl T.g_FewPieces T.KB_FewPieces___init__ (pxT tk) (ja_cons (j_ix (j_var 0) j_int) (ja_cons (j_ix (j_var 0) j_int) ja_nil)) jk_nil))) jss_nil)
    (jss_cons (js_if (jt_cmp (op_eqD hr.units) p_eq (j_ix (j_var 0) j_int) j_str (nomark _)) (jss_one (js_ret (j_make (n := 2) T.mk_LittleIdle (ok_LittleIdle___init__ T) (hr.mono (by omega)) rfl T.g_LittleIdle T.KB_LittleIdle___init__ (pxT tk) (ja_cons (j_ix (j_var 0) j_int) (ja_cons (j_ix (j_var 0) j_int) ja_nil)) jk_nil))) jss_nil)
    (jss_cons (js_if (jt_cmp (op_eqD hr.units) p_eq (j_ix (j_var 0) j_int) j_str (nomark _)) (jss_one (js_ret (j_make (n := 3) T.mk_NoRefusal (ok_NoRefusal___init__ T) (hr.mono (by omega)) rfl T.g_NoRefusal T.KB_NoRefusal___init__ (pxT tk) (ja_cons (j_ix (j_var 0) j_int) (ja_cons (j_ix (j_var 0) j_int) (ja_cons (j_ix (j_var 0) j_int) ja_nil))) jk_nil))) jss_nil)
    (jss_cons (js_par rfl sc_law_wished.nd rfl rfl (by decide) rfl rfl (ja_cons (j_frz (j_call ih (hr.mono (by omega)) rfl T.g_law_wished T.F_law_wished.kp T.b_law_wished (pxT tk) (ja_cons (j_ix (j_var 0) j_int) ja_nil))) (ja_cons (j_frz (j_call ih (hr.mono (by omega)) rfl T.g_law_wished T.F_law_wished.kp T.b_law_wished (pxT tk) (ja_cons (j_ix (j_var 0) j_int) ja_nil))) ja_nil)) (by rfl))
    (jss_one (js_ret (j_if (jt_cmp (op_eqD hr.units) p_eq (j_ix (j_var 0) j_int) j_str (nomark _)) (j_op (o_ownM rfl rfl T.fm_Wish___and__ (ok_Wish___and__ T) (hr.mono (by omega)) T.b_Wish___and__) p_ownM (j_var 1) (j_var 2)) (j_op (o_ownM rfl rfl T.fm_Wish___or__ (ok_Wish___or__ T) (hr.mono (by omega)) T.b_Wish___or__) p_ownM (j_var 1) (j_var 2)))))))))
theorem okR_law_wished (T : Tx K mg a) : ∀ n, FnOk P w K mg base (L2N.CX P w) (7 + n) a.f_law_wished a.d_law_wished ["_law_tree"] (liftSp K 1 (C_law_wished a n))
  | 0 => fn_none fun _ _ _ _ => no_law_wished
  | n + 1 => ok_law_wished T n (okR_law_wished T n)
theorem sc_BothWishes___call__ : FnScope N_BothWishes___call__ ["self", "book"] (defScope s_BothWishes___call__) := ⟨rfl, rfl, rfl, by decide +kernel, rfl, by decide +kernel, by decide +kernel⟩
theorem ok_BothWishes___call__ (T : Tx K mg a) (n : Nat) (ih : Dsp P w K mg base (9 + n) "__call__" 2 (D_call a n)) : FnOk P w K mg base (L2N.CX P w) (9 + n + 1) a.f_BothWishes___call__ a.d_BothWishes___call__ ["self", "book"] (liftSp K 2 (C_BothWishes___call__ a (n + 1))) := by
  refine fn_ok T.F_BothWishes___call__ sc_BothWishes___call__ (by decide) (fun cdv A outer s H E hr => ?_) (pl_BothWishes___call__ T n)
  have tk : L2N.Takes (cxOf (L2N.CX P w) P w K mg base N_BothWishes___call__ "BothWishes.__call__" (defScope s_BothWishes___call__) a.f_BothWishes___call__ cdv A outer s H E) (fun cls d _ H => E cls d H) := L2N.takes_of rfl rfl rfl rfl
  exact (jss_one (js_ret (j_and (j_frz (j_ownFD T.cl_BothWishes T.na_BothWishes_one ih (hr.mono (by omega)) (pxT tk) (j_var 0) (ja_cons (j_var 1) ja_nil))) (j_one (j_frz (j_ownFD T.cl_BothWishes T.na_BothWishes_other ih (hr.mono (by omega)) (pxT tk) (j_var 0) (ja_cons (j_var 1) ja_nil)))))))
theorem sc_EitherWish___call__ : FnScope N_EitherWish___call__ ["self", "book"] (defScope s_EitherWish___call__) := ⟨rfl, rfl, rfl, by decide +kernel, rfl, by decide +kernel, by decide +kernel⟩
theorem ok_EitherWish___call__ (T : Tx K mg a) (n : Nat) (ih : Dsp P w K mg base (9 + n) "__call__" 2 (D_call a n)) : FnOk P w K mg base (L2N.CX P w) (9 + n + 1) a.f_EitherWish___call__ a.d_EitherWish___call__ ["self", "book"] (liftSp K 2 (C_EitherWish___call__ a (n + 1))) := by
  refine fn_ok T.F_EitherWish___call__ sc_EitherWish___call__ (by decide) (fun cdv A outer s H E hr => ?_) (pl_EitherWish___call__ T n)
  have tk : L2N.Takes (cxOf (L2N.CX P w) P w K mg base N_EitherWish___call__ "EitherWish.__call__" (defScope s_EitherWish___call__) a.f_EitherWish___call__ cdv A outer s H E) (fun cls d _ H => E cls d H) := L2N.takes_of rfl rfl rfl rfl
  exact (jss_one (js_ret (j_or (j_frz (j_ownFD T.cl_EitherWish T.na_EitherWish_one ih (hr.mono (by omega)) (pxT tk) (j_var 0) (ja_cons (j_var 1) ja_nil))) (j_one (j_frz (j_ownFD T.cl_EitherWish T.na_EitherWish_other ih (hr.mono (by omega)) (pxT tk) (j_var 0) (ja_cons (j_var 1) ja_nil)))))))
theorem dsp_call (T : Tx K mg a) : ∀ n, Dsp P w K mg base (9 + n) "__call__" 2 (D_call a n)
  | 0 => List.forall_mem_cons.mpr ⟨⟨⟨_, _, _, 8, by omega, T.me_FewPieces___call__, T.fc_FewPieces___call__, T.cl_FewPieces, ok_FewPieces___call__ T, T.b_FewPieces___call__⟩⟩, List.forall_mem_cons.mpr ⟨⟨⟨_, _, _, 6, by omega, T.me_LittleIdle___call__, T.fc_LittleIdle___call__, T.cl_LittleIdle, ok_LittleIdle___call__ T, T.b_LittleIdle___call__⟩⟩, List.forall_mem_cons.mpr ⟨⟨⟨_, _, _, 9, by omega, T.me_NoRefusal___call__, T.fc_NoRefusal___call__, T.cl_NoRefusal, ok_NoRefusal___call__ T, T.b_NoRefusal___call__⟩⟩, List.forall_mem_cons.mpr ⟨⟨⟨_, _, _, 0, by omega, T.me_BothWishes___call__, T.fc_BothWishes___call__, T.cl_BothWishes, fn_none fun ts h Q E q => no_BothWishes___call__ (E := E) q, T.b_BothWishes___call__⟩⟩, List.forall_mem_cons.mpr ⟨⟨⟨_, _, _, 0, by omega, T.me_EitherWish___call__, T.fc_EitherWish___call__, T.cl_EitherWish, fn_none fun ts h Q E q => no_EitherWish___call__ (E := E) q, T.b_EitherWish___call__⟩⟩, fun _ h => nomatch h⟩⟩⟩⟩⟩
  | n + 1 => List.forall_mem_cons.mpr ⟨⟨⟨_, _, _, 8, by omega, T.me_FewPieces___call__, T.fc_FewPieces___call__, T.cl_FewPieces, ok_FewPieces___call__ T, T.b_FewPieces___call__⟩⟩, List.forall_mem_cons.mpr ⟨⟨⟨_, _, _, 6, by omega, T.me_LittleIdle___call__, T.fc_LittleIdle___call__, T.cl_LittleIdle, ok_LittleIdle___call__ T, T.b_LittleIdle___call__⟩⟩, List.forall_mem_cons.mpr ⟨⟨⟨_, _, _, 9, by omega, T.me_NoRefusal___call__, T.fc_NoRefusal___call__, T.cl_NoRefusal, ok_NoRefusal___call__ T, T.b_NoRefusal___call__⟩⟩, List.forall_mem_cons.mpr ⟨⟨⟨_, _, _, 9 + n + 1, by omega, T.me_BothWishes___call__, T.fc_BothWishes___call__, T.cl_BothWishes, ok_BothWishes___call__ T n (dsp_call T n), T.b_BothWishes___call__⟩⟩, List.forall_mem_cons.mpr ⟨⟨⟨_, _, _, 9 + n + 1, by omega, T.me_EitherWish___call__, T.fc_EitherWish___call__, T.cl_EitherWish, ok_EitherWish___call__ T n (dsp_call T n), T.b_EitherWish___call__⟩⟩, fun _ h => nomatch h⟩⟩⟩⟩⟩
theorem sc_law_met : FnScope N_law_met ["_law_tree", "_law_book_here"] (defScope s_law_met) := ⟨rfl, rfl, rfl, by decide +kernel, rfl, by decide +kernel, by decide +kernel⟩
theorem ok_law_met (T : Tx K mg a) (n : Nat) (ih : FnOk P w K mg base (L2N.CX P w) (9 + n) a.f_law_met a.d_law_met ["_law_tree", "_law_book_here"] (liftSp K 2 (C_law_met a n))) : FnOk P w K mg base (L2N.CX P w) (9 + n + 1) a.f_law_met a.d_law_met ["_law_tree", "_law_book_here"] (liftSp K 2 (C_law_met a (n + 1))) := by
  refine fn_ok T.F_law_met sc_law_met (by decide) (fun cdv A outer s H E hr => ?_) (pl_law_met T n)
  have tk : L2N.Takes (cxOf (L2N.CX P w) P w K mg base N_law_met "_law_met" (defScope s_law_met) a.f_law_met cdv A outer s H E) (fun cls d _ H => E cls d H) := L2N.takes_of rfl rfl rfl rfl
  exact (jss_cons (js_if (jt_cmp (op_eqD hr.units) p_eq (j_ix (j_var 0) j_int) j_str (nomark _)) (jss_one (js_ret (j_cmp op_le p_le (j_frz (j_callK (ok_most_pieces T) (hr.mono (by omega)) rfl T.g_most_pieces T.F_most_pieces.kp T.kb0_most_pieces (pxT tk) (ja_cons (j_var 1) (ja_cons (j_ix (j_var 0) j_int) ja_nil)) jk_nil)) (j_ix (j_var 0) j_int) (nomark _)))) jss_nil)
    (jss_cons (js_if (jt_cmp (op_eqD hr.units) p_eq (j_ix (j_var 0) j_int) j_str (nomark _)) (jss_one (js_ret (j_cmp op_le p_le (j_frz (j_call (ok_most_idle T) (hr.mono (by omega)) rfl T.g_most_idle T.F_most_idle.kp T.b_most_idle (pxT tk) (ja_cons (j_var 1) (ja_cons (j_ix (j_var 0) j_int) ja_nil)))) (j_ix (j_var 0) j_int) (nomark _)))) jss_nil)
    (jss_cons (js_if (jt_cmp (op_eqD hr.units) p_eq (j_ix (j_var 0) j_int) j_str (nomark _)) (jss_one (js_ret (j_cmp op_ge p_ge (j_frz (j_call (ok_never_refused T) (hr.mono (by omega)) rfl T.g_never_refused T.F_never_refused.kp T.b_never_refused (pxT tk) (ja_cons (j_var 1) (ja_cons (j_ix (j_var 0) j_int) (ja_cons (j_ix (j_var 0) j_int) ja_nil))))) (j_ix (j_var 0) j_int) (nomark _)))) jss_nil)
    (jss_cons (js_par rfl sc_law_met.nd rfl rfl (by decide) rfl rfl (ja_cons (j_frz (j_call ih (hr.mono (by omega)) rfl T.g_law_met T.F_law_met.kp T.b_law_met (pxT tk) (ja_cons (j_ix (j_var 0) j_int) (ja_cons (j_var 1) ja_nil)))) (ja_cons (j_frz (j_call ih (hr.mono (by omega)) rfl T.g_law_met T.F_law_met.kp T.b_law_met (pxT tk) (ja_cons (j_ix (j_var 0) j_int) (ja_cons (j_var 1) ja_nil)))) ja_nil)) (by rfl))
    (jss_one (js_ret (j_if (jt_cmp (op_eqD hr.units) p_eq (j_ix (j_var 0) j_int) j_str (nomark _)) (j_and (j_var 2) (j_one (j_var 3))) (j_or (j_var 2) (j_one (j_var 3))))))))))
theorem okR_law_met (T : Tx K mg a) : ∀ n, FnOk P w K mg base (L2N.CX P w) (9 + n) a.f_law_met a.d_law_met ["_law_tree", "_law_book_here"] (liftSp K 2 (C_law_met a n))
  | 0 => fn_none fun _ _ _ _ => no_law_met
  | n + 1 => ok_law_met T n (okR_law_met T n)
theorem sc_law : FnScope N_law ["_law_script"] (defScope s_law) := ⟨rfl, rfl, rfl, by decide +kernel, rfl, by decide +kernel, by decide +kernel⟩
theorem ok_law (T : Tx K mg a) : FnOk P w K mg base (L2N.CX P w) 14 a.f_law a.d_law ["_law_script"] (liftSp K 1 C_law) := by
  refine fn_ok T.F_law sc_law (by decide) (fun cdv A outer s H E hr => ?_) (pl_law T)
  have tk : L2N.Takes (cxOf (L2N.CX P w) P w K mg base N_law "law" (defScope s_law) a.f_law cdv A outer s H E) (fun cls d _ H => E cls d H) := L2N.takes_of rfl rfl rfl rfl
  exact (jss_cons (js_for (passes_of rfl) rfl (ji_range1 rfl T.z_range (ja_cons (j_cb (call_maxA rfl) c_max rfl T.z_max (by decide +kernel) (ja_cons j_int (ja_cons (j_cb (call_minA rfl) c_min rfl T.z_min (by decide +kernel) (ja_cons (j_cb call_len c_len rfl T.z_len (by decide +kernel) (ja_cons (j_var 0) ja_nil)) (ja_cons j_int ja_nil))) ja_nil))) ja_nil)) (jg_name (i := 1) sc_law.nd rfl (by first | exact Or.inl rfl | exact Or.inr rfl)) (jss_cons (js_set (i := 2) sc_law.nd rfl (by first | exact Or.inl rfl | exact Or.inr rfl) (j_frz (j_call (ok_law_hand T) (hr.mono (by decide)) rfl T.g_law_hand T.F_law_hand.kp T.b_law_hand (pxT tk) (ja_cons (j_var 0) (ja_cons (j_var 1) ja_nil)))))
    (jss_cons (js_set (i := 3) sc_law.nd rfl (by first | exact Or.inl rfl | exact Or.inr rfl) (j_frz (j_call (ok_law_book T) (hr.mono (by decide)) rfl T.g_law_book T.F_law_book.kp T.b_law_book (pxT tk) (ja_cons (j_frz (j_call (ok_law_parts T) (hr.mono (by decide)) rfl T.g_law_parts T.F_law_parts.kp T.b_law_parts (pxT tk) (ja_cons (j_var 2) ja_nil))) ja_nil))))
    (jss_cons (js_set (i := 4) sc_law.nd rfl (by first | exact Or.inl rfl | exact Or.inr rfl) (j_lst false (ja_cons (j_frz (j_call (okR_law_wish T 3) (hr.mono (by decide)) rfl T.g_law_wish T.F_law_wish.kp T.b_law_wish (pxT tk) (ja_cons (j_var 2) (ja_cons j_int ja_nil)))) (ja_cons (j_frz (j_call (okR_law_wish T 3) (hr.mono (by decide)) rfl T.g_law_wish T.F_law_wish.kp T.b_law_wish (pxT tk) (ja_cons (j_var 2) (ja_cons (j_frz (j_call (ok_law_draw T) (hr.mono (by decide)) rfl T.g_law_draw T.F_law_draw.kp T.b_law_draw (pxT tk) (ja_cons (j_var 2) (ja_cons j_int ja_nil)))) ja_nil)))) ja_nil))))
    (jss_cons (js_expr (j_bm PySem.F.plainAttrs_list PySem.F.slot_list_append PySem.F.type_list_append mt_append ty_list c_app (j_var 4) (ja_cons (j_lst true (ja_cons j_str (ja_cons (j_ix (j_var 4) j_int) (ja_cons (j_ix (j_var 4) j_int) ja_nil)))) ja_nil)))
    (jss_cons (js_setLc true (i := 5) (own := [("_law_tree", 6)]) rfl sc_law.nd rfl rfl (sw_true rfl rfl rfl (by decide +kernel)) (ct_name (by decide)) (ji_seq (j_var 4)) (blkOk_by (N := N_law) (sc := (defScope s_law)) (by decide +kernel)) (fun _ _ _ _ _ => (pg_name (i := 6) sc_law.nd rfl (by first | exact Or.inl rfl | exact Or.inr rfl))) (fun _ _ _ _ _ => jts_nil) (fun _ _ _ _ _ => (j_frz (j_call (okR_law_wished T 4) (hr.mono (by decide)) rfl T.g_law_wished T.F_law_wished.kp T.b_law_wished px0 (ja_cons (j_var 6) ja_nil)))))
    (jss_cons (js_for (passes_of rfl) rfl (ji_range1 rfl T.z_range (ja_cons j_int ja_nil)) (jg_name (i := 7) sc_law.nd rfl (by first | exact Or.inl rfl | exact Or.inr rfl)) (jss_cons (js_set (i := 8) sc_law.nd rfl (by first | exact Or.inl rfl | exact Or.inr rfl) (j_frz (j_ownD (dsp_call T 4) (hr.mono (by decide)) (pxT tk) (j_ix (j_var 5) (j_var 7)) (ja_cons (j_var 3) ja_nil))))
    (jss_cons (js_if (jt_w (jw_or (jt_not (jt_tru (j_cb call_isi c_isi rfl T.z_isinstance (by decide +kernel) (ja_cons (j_var 8) (ja_cons (j_ty rfl T.z_bool (by decide +kernel)) ja_nil))))) (jw_or (jt_cmp (op_neD hr.units) p_ne (j_var 8) (j_frz (j_call (okR_law_met T 4) (hr.mono (by decide)) rfl T.g_law_met T.F_law_met.kp T.b_law_met (pxT tk) (ja_cons (j_ix (j_var 4) (j_var 7)) (ja_cons (j_var 3) ja_nil)))) (nomark _)) (jw_or1 (jt_not (jt_tru (j_cb call_isi c_isiC rfl T.z_isinstance (by decide +kernel) (ja_cons (j_ix (j_var 5) (j_var 7)) (ja_cons (j_globR rfl T.g_Wish) ja_nil))))))))) (jss_one (js_ret j_bl)) jss_nil)
    (jss_cons (js_if (jt_w (jw_or (jt_cmp (op_neD hr.units) p_ne (j_frz (j_methD0 (dsp_shown T 4) (hr.mono (by decide)) (pxT tk) (j_ix (j_var 5) (j_var 7)))) (j_frz (j_call (okR_law_text T 4) (hr.mono (by decide)) rfl T.g_law_text T.F_law_text.kp T.b_law_text (pxT tk) (ja_cons (j_ix (j_var 4) (j_var 7)) ja_nil))) (nomark _)) (jw_or1 (jt_cmp (o_ownCmpS (fun _ _ _ _ _ _ z => PySem.W.cmp_ofEq z) rfl rfl T.fm_Wish___eq__ rfl (ok_Wish___eq__ T) (hr.mono (by decide)) T.b_Wish___eq__) p_ownS (j_ix (j_var 5) (j_var 7)) (j_frz (j_call (okR_law_text T 4) (hr.mono (by decide)) rfl T.g_law_text T.F_law_text.kp T.b_law_text (pxT tk) (ja_cons (j_ix (j_var 4) (j_var 7)) ja_nil))) (nomark _))))) (jss_one (js_ret j_bl)) jss_nil)
    (jss_one (js_for (passes_of rfl) rfl (ji_range1 rfl T.z_range (ja_cons j_int ja_nil)) (jg_name (i := 9) sc_law.nd rfl (by first | exact Or.inl rfl | exact Or.inr rfl)) (jss_cons (js_set (i := 10) sc_law.nd rfl (by first | exact Or.inl rfl | exact Or.inr rfl) (j_cmp (op_eqD hr.units) p_eq (j_frz (j_call (okR_law_text T 4) (hr.mono (by decide)) rfl T.g_law_text T.F_law_text.kp T.b_law_text (pxT tk) (ja_cons (j_ix (j_var 4) (j_var 7)) ja_nil))) (j_frz (j_call (okR_law_text T 4) (hr.mono (by decide)) rfl T.g_law_text T.F_law_text.kp T.b_law_text (pxT tk) (ja_cons (j_ix (j_var 4) (j_var 9)) ja_nil))) (nomark _)))
    (jss_one (js_if (jt_cmp (op_neD hr.units) p_ne (j_cmp (o_ownCmpM (fun _ _ _ _ _ _ z => PySem.W.cmp_ofEq z) rfl rfl T.fm_Wish___eq__ rfl (ok_Wish___eq__ T) (hr.mono (by decide)) T.b_Wish___eq__) p_ownM (j_ix (j_var 5) (j_var 7)) (j_ix (j_var 5) (j_var 9)) (nomark _)) (j_var 10) (nomark _)) (jss_one (js_ret j_bl)) jss_nil)))))))))
    (jss_cons (js_set (i := 11) sc_law.nd rfl (by first | exact Or.inl rfl | exact Or.inr rfl) (j_frz (j_op (o_ownM rfl rfl T.fm_Wish___or__ (ok_Wish___or__ T) (hr.mono (by decide)) T.b_Wish___or__) p_ownM (j_ix (j_var 5) j_int) (j_ix (j_var 5) j_int))))
    (jss_one (js_if (jt_w (jw_or (jt_cmp (op_neD hr.units) p_ne (j_frz (j_ownD (dsp_call T 4) (hr.mono (by decide)) (pxT tk) (j_var 11) (ja_cons (j_var 3) ja_nil))) (j_or (j_frz (j_ownD (dsp_call T 4) (hr.mono (by decide)) (pxT tk) (j_ix (j_var 5) j_int) (ja_cons (j_var 3) ja_nil))) (j_one (j_frz (j_ownD (dsp_call T 4) (hr.mono (by decide)) (pxT tk) (j_ix (j_var 5) j_int) (ja_cons (j_var 3) ja_nil))))) (nomark _)) (jw_or1 (jt_not (jt_tru (j_frz (j_call0 (ok_law_odd T) (hr.mono (by decide)) rfl T.g_law_odd T.F_law_odd.kp T.b_law_odd (pxT tk)))))))) (jss_one (js_ret j_bl)) jss_nil))))))))))
    (jss_one (js_ret j_bl)))
end
theorem all_mk {l : PySem.W.OpenLaw} {w : World} {K : PySem.W.Frag} {h : Heap} {mg : Str → Option Value} {fa : Addr} (X : K.In h) (G : h.Ns mainGlobals mg) (hfa : mg "law" = some (.ref fa))
    {f1 : Addr} {od1 an1 : Option Addr} {sl1 : Array (Option Value)} {oc1 kV1 dc1 pm1 cd1 ct1 : Value}
    {f2 : Addr} {od2 an2 : Option Addr} {sl2 : Array (Option Value)} {oc2 kV2 dc2 pm2 cd2 ct2 : Value}
    {f3 : Addr} {od3 an3 : Option Addr} {sl3 : Array (Option Value)} {oc3 kV3 dc3 pm3 cd3 ct3 : Value}
    {f4 : Addr} {od4 an4 : Option Addr} {sl4 : Array (Option Value)} {oc4 kV4 dc4 pm4 cd4 ct4 : Value}
    {f5 : Addr} {od5 an5 : Option Addr} {sl5 : Array (Option Value)} {oc5 kV5 dc5 pm5 cd5 ct5 : Value}
    {f6 : Addr} {od6 an6 : Option Addr} {sl6 : Array (Option Value)} {oc6 dc6 pm6 cd6 ct6 : Value}
    {kd6 : Addr}
    {kt6_share : Addr}
    {f7 : Addr} {od7 an7 : Option Addr} {sl7 : Array (Option Value)} {oc7 kV7 dc7 pm7 cd7 ct7 : Value}
    {pp7 : Addr} {pr7 : List Value}
    {f8 : Addr} {od8 an8 : Option Addr} {sl8 : Array (Option Value)} {oc8 kV8 dc8 pm8 cd8 ct8 : Value}
    {pp8 : Addr} {pr8 : List Value}
    {f9 : Addr} {od9 an9 : Option Addr} {sl9 : Array (Option Value)} {oc9 kV9 dc9 pm9 cd9 ct9 : Value}
    {f10 : Addr} {od10 an10 : Option Addr} {sl10 : Array (Option Value)} {oc10 kV10 dc10 pm10 cd10 ct10 : Value}
    {f11 : Addr} {od11 an11 : Option Addr} {sl11 : Array (Option Value)} {oc11 kV11 dc11 pm11 cd11 ct11 : Value}
    {f12 : Addr} {od12 an12 : Option Addr} {sl12 : Array (Option Value)} {oc12 kV12 dc12 pm12 cd12 ct12 : Value}
    {f13 : Addr} {od13 an13 : Option Addr} {sl13 : Array (Option Value)} {oc13 dc13 pm13 cd13 ct13 : Value}
    {kd13 : Addr}
    {f14 : Addr} {od14 an14 : Option Addr} {sl14 : Array (Option Value)} {oc14 kV14 dc14 pm14 cd14 ct14 : Value}
    {f15 : Addr} {od15 an15 : Option Addr} {sl15 : Array (Option Value)} {oc15 kV15 dc15 pm15 cd15 ct15 : Value}
    {f16 : Addr} {od16 an16 : Option Addr} {sl16 : Array (Option Value)} {oc16 kV16 dc16 pm16 cd16 ct16 : Value}
    {f17 : Addr} {od17 an17 : Option Addr} {sl17 : Array (Option Value)} {oc17 kV17 dc17 pm17 cd17 ct17 : Value}
    {f18 : Addr} {od18 an18 : Option Addr} {sl18 : Array (Option Value)} {oc18 kV18 dc18 pm18 cd18 ct18 : Value}
    {f19 : Addr} {od19 an19 : Option Addr} {sl19 : Array (Option Value)} {oc19 kV19 dc19 pm19 cd19 ct19 : Value}
    {f20 : Addr} {od20 an20 : Option Addr} {sl20 : Array (Option Value)} {oc20 kV20 dc20 pm20 cd20 ct20 : Value}
    {f21 : Addr} {od21 an21 : Option Addr} {sl21 : Array (Option Value)} {oc21 kV21 dc21 pm21 cd21 ct21 : Value}
    {f22 : Addr} {od22 an22 : Option Addr} {sl22 : Array (Option Value)} {oc22 kV22 dc22 pm22 cd22 ct22 : Value}
    {f23 : Addr} {od23 an23 : Option Addr} {sl23 : Array (Option Value)} {oc23 kV23 dc23 pm23 cd23 ct23 : Value}
    {f24 : Addr} {od24 an24 : Option Addr} {sl24 : Array (Option Value)} {oc24 kV24 dc24 pm24 cd24 ct24 : Value}
    {f25 : Addr} {od25 an25 : Option Addr} {sl25 : Array (Option Value)} {oc25 kV25 dc25 pm25 cd25 ct25 : Value}
    {f26 : Addr} {od26 an26 : Option Addr} {sl26 : Array (Option Value)} {oc26 kV26 dc26 pm26 cd26 ct26 : Value}
    {f27 : Addr} {od27 an27 : Option Addr} {sl27 : Array (Option Value)} {oc27 kV27 dc27 pm27 cd27 ct27 : Value}
    {f28 : Addr} {od28 an28 : Option Addr} {sl28 : Array (Option Value)} {oc28 kV28 dc28 pm28 cd28 ct28 : Value}
    {f29 : Addr} {od29 an29 : Option Addr} {sl29 : Array (Option Value)} {oc29 kV29 dc29 pm29 cd29 ct29 : Value}
    {f30 : Addr} {od30 an30 : Option Addr} {sl30 : Array (Option Value)} {oc30 kV30 dc30 pm30 cd30 ct30 : Value}
    {f31 : Addr} {od31 an31 : Option Addr} {sl31 : Array (Option Value)} {oc31 kV31 dc31 pm31 cd31 ct31 : Value}
    {f32 : Addr} {od32 an32 : Option Addr} {sl32 : Array (Option Value)} {oc32 kV32 dc32 pm32 cd32 ct32 : Value}
    {f33 : Addr} {od33 an33 : Option Addr} {sl33 : Array (Option Value)} {oc33 kV33 dc33 pm33 cd33 ct33 : Value}
    {f34 : Addr} {od34 an34 : Option Addr} {sl34 : Array (Option Value)} {oc34 kV34 dc34 pm34 cd34 ct34 : Value}
    {f35 : Addr} {od35 an35 : Option Addr} {sl35 : Array (Option Value)} {oc35 kV35 dc35 pm35 cd35 ct35 : Value}
    {f36 : Addr} {od36 an36 : Option Addr} {sl36 : Array (Option Value)} {oc36 kV36 dc36 pm36 cd36 ct36 : Value}
    {f37 : Addr} {od37 an37 : Option Addr} {sl37 : Array (Option Value)} {oc37 kV37 dc37 pm37 cd37 ct37 : Value}
    {f38 : Addr} {od38 an38 : Option Addr} {sl38 : Array (Option Value)} {oc38 kV38 dc38 pm38 cd38 ct38 : Value}
    {f39 : Addr} {od39 an39 : Option Addr} {sl39 : Array (Option Value)} {oc39 kV39 dc39 pm39 cd39 ct39 : Value}
    {f40 : Addr} {od40 an40 : Option Addr} {sl40 : Array (Option Value)} {oc40 kV40 dc40 pm40 cd40 ct40 : Value}
    {f41 : Addr} {od41 an41 : Option Addr} {sl41 : Array (Option Value)} {oc41 kV41 dc41 pm41 cd41 ct41 : Value}
    {f42 : Addr} {od42 an42 : Option Addr} {sl42 : Array (Option Value)} {oc42 kV42 dc42 pm42 cd42 ct42 : Value}
    {f43 : Addr} {od43 an43 : Option Addr} {sl43 : Array (Option Value)} {oc43 kV43 dc43 pm43 cd43 ct43 : Value}
    {f44 : Addr} {od44 an44 : Option Addr} {sl44 : Array (Option Value)} {oc44 kV44 dc44 pm44 cd44 ct44 : Value}
    {f45 : Addr} {od45 an45 : Option Addr} {sl45 : Array (Option Value)} {oc45 kV45 dc45 pm45 cd45 ct45 : Value}
    {f46 : Addr} {od46 an46 : Option Addr} {sl46 : Array (Option Value)} {oc46 kV46 dc46 pm46 cd46 ct46 : Value}
    {f47 : Addr} {od47 an47 : Option Addr} {sl47 : Array (Option Value)} {oc47 kV47 dc47 pm47 cd47 ct47 : Value}
    {f48 : Addr} {od48 an48 : Option Addr} {sl48 : Array (Option Value)} {oc48 kV48 dc48 pm48 cd48 ct48 : Value}
    {f49 : Addr} {od49 an49 : Option Addr} {sl49 : Array (Option Value)} {oc49 kV49 dc49 pm49 cd49 ct49 : Value}
    {f50 : Addr} {od50 an50 : Option Addr} {sl50 : Array (Option Value)} {oc50 kV50 dc50 pm50 cd50 ct50 : Value}
    {f51 : Addr} {od51 an51 : Option Addr} {sl51 : Array (Option Value)} {oc51 kV51 dc51 pm51 cd51 ct51 : Value}
    {t_MOST : Tok}
    {t_MOST_BLOCKS : Tok}
    {t_MOST_FILES : Tok}
    {t_MOST_GROWTH_checks : Tok}
    {t_MOST_GROWTH_numbers : Tok}
    {t_MOST_NUMBER : Tok}
    {t_MOST_SHARE : Tok}
    {c_InvalidNumber : Addr}
    {c_GrowError : Addr}
    {c_InvalidBook : Addr}
    {c_Book : Addr}
    {c_BothWishes : Addr}
    {c_Wish : Addr}
    {c_EitherWish : Addr}
    {c_FewPieces : Addr}
    {c_LittleIdle : Addr}
    {c_NoRefusal : Addr}
    {c_InvalidChoice : Addr}
    {i_InvalidNumber : Addr} {xnm_InvalidNumber xq_InvalidNumber : Str} {xN_InvalidNumber : Addr} {xbs_InvalidNumber : List Value} {xsn_InvalidNumber : List Str} {xsub_InvalidNumber : List Value} {xab_InvalidNumber : Bool} {xcol_InvalidNumber : Option Bool} {xdd_InvalidNumber : Option Addr} {m0_InvalidNumber m1_InvalidNumber m2_InvalidNumber m3_InvalidNumber m5_InvalidNumber : Option Value} {od_InvalidNumber an_InvalidNumber : Option Addr} {sl_InvalidNumber : Array (Option Value)} {oc_InvalidNumber kV_InvalidNumber dc_InvalidNumber pm_InvalidNumber cd_InvalidNumber ct_InvalidNumber : Value}
    {i_InvalidBook : Addr} {xnm_InvalidBook xq_InvalidBook : Str} {xN_InvalidBook : Addr} {xbs_InvalidBook : List Value} {xsn_InvalidBook : List Str} {xsub_InvalidBook : List Value} {xab_InvalidBook : Bool} {xcol_InvalidBook : Option Bool} {xdd_InvalidBook : Option Addr} {m0_InvalidBook m1_InvalidBook m2_InvalidBook m3_InvalidBook m5_InvalidBook : Option Value} {od_InvalidBook an_InvalidBook : Option Addr} {sl_InvalidBook : Array (Option Value)} {oc_InvalidBook kV_InvalidBook dc_InvalidBook pm_InvalidBook cd_InvalidBook ct_InvalidBook : Value}
    (a1 : PySem.W.nsIn K mainGlobals "is_integer" = some (some (.ref f1)))
    (l1 : K.lookup f1 = some ⟨oc1, od1, .func (PySem.W.fnOf "is_integer" "is_integer" (defArgs s_is_integer) (defBody s_is_integer) (defScope s_is_integer) .none kV1 dc1 pm1 an1 cd1 ct1), sl1⟩) (c1 : PySem.W.codeIn K cd1 "is_integer" = true) (k1 : PySem.W.keepIn K (.ref f1) = true)
    (a2 : PySem.W.nsIn K mainGlobals "check_integer" = some (some (.ref f2)))
    (l2 : K.lookup f2 = some ⟨oc2, od2, .func (PySem.W.fnOf "check_integer" "check_integer" (defArgs s_check_integer) (defBody s_check_integer) (defScope s_check_integer) .none kV2 dc2 pm2 an2 cd2 ct2), sl2⟩) (c2 : PySem.W.codeIn K cd2 "check_integer" = true) (k2 : PySem.W.keepIn K (.ref f2) = true)
    (a3 : PySem.W.nsIn K mainGlobals "is_share" = some (some (.ref f3)))
    (l3 : K.lookup f3 = some ⟨oc3, od3, .func (PySem.W.fnOf "is_share" "is_share" (defArgs s_is_share) (defBody s_is_share) (defScope s_is_share) .none kV3 dc3 pm3 an3 cd3 ct3), sl3⟩) (c3 : PySem.W.codeIn K cd3 "is_share" = true) (k3 : PySem.W.keepIn K (.ref f3) = true)
    (a4 : PySem.W.nsIn K mainGlobals "part_of" = some (some (.ref f4)))
    (l4 : K.lookup f4 = some ⟨oc4, od4, .func (PySem.W.fnOf "part_of" "part_of" (defArgs s_part_of) (defBody s_part_of) (defScope s_part_of) .none kV4 dc4 pm4 an4 cd4 ct4), sl4⟩) (c4 : PySem.W.codeIn K cd4 "part_of" = true) (k4 : PySem.W.keepIn K (.ref f4) = true)
    (a5 : PySem.W.nsIn K mainGlobals "check_parts" = some (some (.ref f5)))
    (l5 : K.lookup f5 = some ⟨oc5, od5, .func (PySem.W.fnOf "check_parts" "check_parts" (defArgs s_check_parts) (defBody s_check_parts) (defScope s_check_parts) .none kV5 dc5 pm5 an5 cd5 ct5), sl5⟩) (c5 : PySem.W.codeIn K cd5 "check_parts" = true) (k5 : PySem.W.keepIn K (.ref f5) = true)
    (a11 : PySem.W.nsIn K mainGlobals "ramp" = some (some (.ref f11)))
    (l11 : K.lookup f11 = some ⟨oc11, od11, .func (PySem.W.fnOf "ramp" "ramp" (defArgs s_ramp) (defBody s_ramp) (defScope s_ramp) .none kV11 dc11 pm11 an11 cd11 ct11), sl11⟩) (c11 : PySem.W.codeIn K cd11 "ramp" = true) (k11 : PySem.W.keepIn K (.ref f11) = true)
    (a12 : PySem.W.nsIn K mainGlobals "givings" = some (some (.ref f12)))
    (l12 : K.lookup f12 = some ⟨oc12, od12, .func (PySem.W.fnOf "givings" "givings" (defArgs s_givings) (defBody s_givings) (defScope s_givings) .none kV12 dc12 pm12 an12 cd12 ct12), sl12⟩) (c12 : PySem.W.codeIn K cd12 "givings" = true) (k12 : PySem.W.keepIn K (.ref f12) = true)
    (a13 : PySem.W.nsIn K mainGlobals "most_pieces" = some (some (.ref f13)))
    (l13 : K.lookup f13 = some ⟨oc13, od13, .func (PySem.W.fnOf "most_pieces" "most_pieces" (defArgs s_most_pieces) (defBody s_most_pieces) (defScope s_most_pieces) .none (.ref kd13) dc13 pm13 an13 cd13 ct13), sl13⟩) (c13 : PySem.W.codeIn K cd13 "most_pieces" = true) (k13 : PySem.W.keepIn K (.ref f13) = true)
    (kw13_back : PySem.W.nsIn K kd13 "back" = some (some (.bool false)))
    (a14 : PySem.W.nsIn K mainGlobals "most_idle" = some (some (.ref f14)))
    (l14 : K.lookup f14 = some ⟨oc14, od14, .func (PySem.W.fnOf "most_idle" "most_idle" (defArgs s_most_idle) (defBody s_most_idle) (defScope s_most_idle) .none kV14 dc14 pm14 an14 cd14 ct14), sl14⟩) (c14 : PySem.W.codeIn K cd14 "most_idle" = true) (k14 : PySem.W.keepIn K (.ref f14) = true)
    (a15 : PySem.W.nsIn K mainGlobals "check_blocks" = some (some (.ref f15)))
    (l15 : K.lookup f15 = some ⟨oc15, od15, .func (PySem.W.fnOf "check_blocks" "check_blocks" (defArgs s_check_blocks) (defBody s_check_blocks) (defScope s_check_blocks) .none kV15 dc15 pm15 an15 cd15 ct15), sl15⟩) (c15 : PySem.W.codeIn K cd15 "check_blocks" = true) (k15 : PySem.W.keepIn K (.ref f15) = true)
    (a16 : PySem.W.nsIn K mainGlobals "whole_choices" = some (some (.ref f16)))
    (l16 : K.lookup f16 = some ⟨oc16, od16, .func (PySem.W.fnOf "whole_choices" "whole_choices" (defArgs s_whole_choices) (defBody s_whole_choices) (defScope s_whole_choices) .none kV16 dc16 pm16 an16 cd16 ct16), sl16⟩) (c16 : PySem.W.codeIn K cd16 "whole_choices" = true) (k16 : PySem.W.keepIn K (.ref f16) = true)
    (a17 : PySem.W.nsIn K mainGlobals "layers" = some (some (.ref f17)))
    (l17 : K.lookup f17 = some ⟨oc17, od17, .func (PySem.W.fnOf "layers" "layers" (defArgs s_layers) (defBody s_layers) (defScope s_layers) .none kV17 dc17 pm17 an17 cd17 ct17), sl17⟩) (c17 : PySem.W.codeIn K cd17 "layers" = true) (k17 : PySem.W.keepIn K (.ref f17) = true)
    (a18 : PySem.W.nsIn K mainGlobals "growths_at" = some (some (.ref f18)))
    (l18 : K.lookup f18 = some ⟨oc18, od18, .func (PySem.W.fnOf "growths_at" "growths_at" (defArgs s_growths_at) (defBody s_growths_at) (defScope s_growths_at) .none kV18 dc18 pm18 an18 cd18 ct18), sl18⟩) (c18 : PySem.W.codeIn K cd18 "growths_at" = true) (k18 : PySem.W.keepIn K (.ref f18) = true)
    (a19 : PySem.W.nsIn K mainGlobals "short_choices" = some (some (.ref f19)))
    (l19 : K.lookup f19 = some ⟨oc19, od19, .func (PySem.W.fnOf "short_choices" "short_choices" (defArgs s_short_choices) (defBody s_short_choices) (defScope s_short_choices) .none kV19 dc19 pm19 an19 cd19 ct19), sl19⟩) (c19 : PySem.W.codeIn K cd19 "short_choices" = true) (k19 : PySem.W.keepIn K (.ref f19) = true)
    (a20 : PySem.W.nsIn K mainGlobals "fullest" = some (some (.ref f20)))
    (l20 : K.lookup f20 = some ⟨oc20, od20, .func (PySem.W.fnOf "fullest" "fullest" (defArgs s_fullest) (defBody s_fullest) (defScope s_fullest) .none kV20 dc20 pm20 an20 cd20 ct20), sl20⟩) (c20 : PySem.W.codeIn K cd20 "fullest" = true) (k20 : PySem.W.keepIn K (.ref f20) = true)
    (a21 : PySem.W.nsIn K mainGlobals "least_refused" = some (some (.ref f21)))
    (l21 : K.lookup f21 = some ⟨oc21, od21, .func (PySem.W.fnOf "least_refused" "least_refused" (defArgs s_least_refused) (defBody s_least_refused) (defScope s_least_refused) .none kV21 dc21 pm21 an21 cd21 ct21), sl21⟩) (c21 : PySem.W.codeIn K cd21 "least_refused" = true) (k21 : PySem.W.keepIn K (.ref f21) = true)
    (a22 : PySem.W.nsIn K mainGlobals "never_refused" = some (some (.ref f22)))
    (l22 : K.lookup f22 = some ⟨oc22, od22, .func (PySem.W.fnOf "never_refused" "never_refused" (defArgs s_never_refused) (defBody s_never_refused) (defScope s_never_refused) .none kV22 dc22 pm22 an22 cd22 ct22), sl22⟩) (c22 : PySem.W.codeIn K cd22 "never_refused" = true) (k22 : PySem.W.keepIn K (.ref f22) = true)
    (a41 : PySem.W.nsIn K mainGlobals "_law_hand" = some (some (.ref f41)))
    (l41 : K.lookup f41 = some ⟨oc41, od41, .func (PySem.W.fnOf "_law_hand" "_law_hand" (defArgs s_law_hand) (defBody s_law_hand) (defScope s_law_hand) .none kV41 dc41 pm41 an41 cd41 ct41), sl41⟩) (c41 : PySem.W.codeIn K cd41 "_law_hand" = true) (k41 : PySem.W.keepIn K (.ref f41) = true)
    (a42 : PySem.W.nsIn K mainGlobals "_law_draw" = some (some (.ref f42)))
    (l42 : K.lookup f42 = some ⟨oc42, od42, .func (PySem.W.fnOf "_law_draw" "_law_draw" (defArgs s_law_draw) (defBody s_law_draw) (defScope s_law_draw) .none kV42 dc42 pm42 an42 cd42 ct42), sl42⟩) (c42 : PySem.W.codeIn K cd42 "_law_draw" = true) (k42 : PySem.W.keepIn K (.ref f42) = true)
    (a43 : PySem.W.nsIn K mainGlobals "_law_parts" = some (some (.ref f43)))
    (l43 : K.lookup f43 = some ⟨oc43, od43, .func (PySem.W.fnOf "_law_parts" "_law_parts" (defArgs s_law_parts) (defBody s_law_parts) (defScope s_law_parts) .none kV43 dc43 pm43 an43 cd43 ct43), sl43⟩) (c43 : PySem.W.codeIn K cd43 "_law_parts" = true) (k43 : PySem.W.keepIn K (.ref f43) = true)
    (a44 : PySem.W.nsIn K mainGlobals "_law_book" = some (some (.ref f44)))
    (l44 : K.lookup f44 = some ⟨oc44, od44, .func (PySem.W.fnOf "_law_book" "_law_book" (defArgs s_law_book) (defBody s_law_book) (defScope s_law_book) .none kV44 dc44 pm44 an44 cd44 ct44), sl44⟩) (c44 : PySem.W.codeIn K cd44 "_law_book" = true) (k44 : PySem.W.keepIn K (.ref f44) = true)
    (a45 : PySem.W.nsIn K mainGlobals "_law_wish" = some (some (.ref f45)))
    (l45 : K.lookup f45 = some ⟨oc45, od45, .func (PySem.W.fnOf "_law_wish" "_law_wish" (defArgs s_law_wish) (defBody s_law_wish) (defScope s_law_wish) .none kV45 dc45 pm45 an45 cd45 ct45), sl45⟩) (c45 : PySem.W.codeIn K cd45 "_law_wish" = true) (k45 : PySem.W.keepIn K (.ref f45) = true)
    (a46 : PySem.W.nsIn K mainGlobals "_law_wished" = some (some (.ref f46)))
    (l46 : K.lookup f46 = some ⟨oc46, od46, .func (PySem.W.fnOf "_law_wished" "_law_wished" (defArgs s_law_wished) (defBody s_law_wished) (defScope s_law_wished) .none kV46 dc46 pm46 an46 cd46 ct46), sl46⟩) (c46 : PySem.W.codeIn K cd46 "_law_wished" = true) (k46 : PySem.W.keepIn K (.ref f46) = true)
    (a47 : PySem.W.nsIn K mainGlobals "_law_met" = some (some (.ref f47)))
    (l47 : K.lookup f47 = some ⟨oc47, od47, .func (PySem.W.fnOf "_law_met" "_law_met" (defArgs s_law_met) (defBody s_law_met) (defScope s_law_met) .none kV47 dc47 pm47 an47 cd47 ct47), sl47⟩) (c47 : PySem.W.codeIn K cd47 "_law_met" = true) (k47 : PySem.W.keepIn K (.ref f47) = true)
    (a48 : PySem.W.nsIn K mainGlobals "_law_text" = some (some (.ref f48)))
    (l48 : K.lookup f48 = some ⟨oc48, od48, .func (PySem.W.fnOf "_law_text" "_law_text" (defArgs s_law_text) (defBody s_law_text) (defScope s_law_text) .none kV48 dc48 pm48 an48 cd48 ct48), sl48⟩) (c48 : PySem.W.codeIn K cd48 "_law_text" = true) (k48 : PySem.W.keepIn K (.ref f48) = true)
    (a49 : PySem.W.nsIn K mainGlobals "_law_refused" = some (some (.ref f49)))
    (l49 : K.lookup f49 = some ⟨oc49, od49, .func (PySem.W.fnOf "_law_refused" "_law_refused" (defArgs s_law_refused) (defBody s_law_refused) (defScope s_law_refused) .none kV49 dc49 pm49 an49 cd49 ct49), sl49⟩) (c49 : PySem.W.codeIn K cd49 "_law_refused" = true) (k49 : PySem.W.keepIn K (.ref f49) = true)
    (a50 : PySem.W.nsIn K mainGlobals "_law_odd" = some (some (.ref f50)))
    (l50 : K.lookup f50 = some ⟨oc50, od50, .func (PySem.W.fnOf "_law_odd" "_law_odd" (defArgs s_law_odd) (defBody s_law_odd) (defScope s_law_odd) .none kV50 dc50 pm50 an50 cd50 ct50), sl50⟩) (c50 : PySem.W.codeIn K cd50 "_law_odd" = true) (k50 : PySem.W.keepIn K (.ref f50) = true)
    (a51 : PySem.W.nsIn K mainGlobals "law" = some (some (.ref f51)))
    (l51 : K.lookup f51 = some ⟨oc51, od51, .func (PySem.W.fnOf "law" "law" (defArgs s_law) (defBody s_law) (defScope s_law) .none kV51 dc51 pm51 an51 cd51 ct51), sl51⟩) (c51 : PySem.W.codeIn K cd51 "law" = true) (k51 : PySem.W.keepIn K (.ref f51) = true)
    (z_bool : PySem.W.nsIn K mainGlobals "bool" = some none)
    (z_enumerate : PySem.W.nsIn K mainGlobals "enumerate" = some none)
    (z_int : PySem.W.nsIn K mainGlobals "int" = some none)
    (z_isinstance : PySem.W.nsIn K mainGlobals "isinstance" = some none)
    (z_len : PySem.W.nsIn K mainGlobals "len" = some none)
    (z_max : PySem.W.nsIn K mainGlobals "max" = some none)
    (z_min : PySem.W.nsIn K mainGlobals "min" = some none)
    (z_range : PySem.W.nsIn K mainGlobals "range" = some none)
    (z_repr : PySem.W.nsIn K mainGlobals "repr" = some none)
    (z_str : PySem.W.nsIn K mainGlobals "str" = some none)
    (z_tuple : PySem.W.nsIn K mainGlobals "tuple" = some none)
    (c_MOST : PySem.W.nsIn K mainGlobals "MOST" = some (some (.int 10000000000000000000000000000000000000000 t_MOST)))
    (c_MOST_BLOCKS : PySem.W.nsIn K mainGlobals "MOST_BLOCKS" = some (some (.int 300 t_MOST_BLOCKS)))
    (c_MOST_FILES : PySem.W.nsIn K mainGlobals "MOST_FILES" = some (some (.int 8 t_MOST_FILES)))
    (c_MOST_GROWTH_checks : PySem.W.nsIn K mainGlobals "MOST_GROWTH_checks" = some (some (.int 1000000000000000000000000000000 t_MOST_GROWTH_checks)))
    (c_MOST_GROWTH_numbers : PySem.W.nsIn K mainGlobals "MOST_GROWTH_numbers" = some (some (.int 1000000000000000000000000000000 t_MOST_GROWTH_numbers)))
    (c_MOST_NUMBER : PySem.W.nsIn K mainGlobals "MOST_NUMBER" = some (some (.int 10000000000000000000000000000000000000000 t_MOST_NUMBER)))
    (c_MOST_SHARE : PySem.W.nsIn K mainGlobals "MOST_SHARE" = some (some (.int 100 t_MOST_SHARE)))
    (ga_InvalidNumber : PySem.W.nsIn K mainGlobals "InvalidNumber" = some (some (.ref c_InvalidNumber)))
    (ga_GrowError : PySem.W.nsIn K mainGlobals "GrowError" = some (some (.ref c_GrowError)))
    (ga_InvalidBook : PySem.W.nsIn K mainGlobals "InvalidBook" = some (some (.ref c_InvalidBook)))
    (ga_Book : PySem.W.nsIn K mainGlobals "Book" = some (some (.ref c_Book)))
    (ga_BothWishes : PySem.W.nsIn K mainGlobals "BothWishes" = some (some (.ref c_BothWishes)))
    (ga_Wish : PySem.W.nsIn K mainGlobals "Wish" = some (some (.ref c_Wish)))
    (ga_EitherWish : PySem.W.nsIn K mainGlobals "EitherWish" = some (some (.ref c_EitherWish)))
    (ga_FewPieces : PySem.W.nsIn K mainGlobals "FewPieces" = some (some (.ref c_FewPieces)))
    (ga_LittleIdle : PySem.W.nsIn K mainGlobals "LittleIdle" = some (some (.ref c_LittleIdle)))
    (ga_NoRefusal : PySem.W.nsIn K mainGlobals "NoRefusal" = some (some (.ref c_NoRefusal)))
    (ga_InvalidChoice : PySem.W.nsIn K mainGlobals "InvalidChoice" = some (some (.ref c_InvalidChoice)))
    (mi6 : PySem.W.findIn K (.ref c_Book) "__init__" = some (some (.ref f6))) (mf6 : PySem.W.isFn K (.ref f6) = true)
    (l6 : K.lookup f6 = some ⟨oc6, od6, .func (PySem.W.fnOf "__init__" "Book.__init__" (defArgs s_Book___init__) (defBody s_Book___init__) (defScope s_Book___init__) .none (.ref kd6) dc6 pm6 an6 cd6 ct6), sl6⟩) (c6 : PySem.W.codeIn K cd6 "Book.__init__" = true) (k6 : PySem.W.keepIn K (.ref f6) = true)
    (kw6_share : PySem.W.nsIn K kd6 "share" = some (some (.ref kt6_share)))
    (pa7 : PySem.W.findIn K (.ref c_Book) "first" = some (some (.ref pp7))) (pg7 : PySem.W.specialIn K (.ref pp7) "__get__" = some (some (.builtin "property.__get__"))) (pt7 : PySem.W.takesIn K (.ref pp7) = some true) (pc7 : PySem.W.recIn K pp7 "property" = some (.ref f7 :: pr7))
    (l7 : K.lookup f7 = some ⟨oc7, od7, .func (PySem.W.fnOf "first" "Book.first" (defArgs s_Book_first) (defBody s_Book_first) (defScope s_Book_first) .none kV7 dc7 pm7 an7 cd7 ct7), sl7⟩) (c7 : PySem.W.codeIn K cd7 "Book.first" = true) (k7 : PySem.W.keepIn K (.ref f7) = true)
    (pa8 : PySem.W.findIn K (.ref c_Book) "roof" = some (some (.ref pp8))) (pg8 : PySem.W.specialIn K (.ref pp8) "__get__" = some (some (.builtin "property.__get__"))) (pt8 : PySem.W.takesIn K (.ref pp8) = some true) (pc8 : PySem.W.recIn K pp8 "property" = some (.ref f8 :: pr8))
    (l8 : K.lookup f8 = some ⟨oc8, od8, .func (PySem.W.fnOf "roof" "Book.roof" (defArgs s_Book_roof) (defBody s_Book_roof) (defScope s_Book_roof) .none kV8 dc8 pm8 an8 cd8 ct8), sl8⟩) (c8 : PySem.W.codeIn K cd8 "Book.roof" = true) (k8 : PySem.W.keepIn K (.ref f8) = true)
    (mi9 : PySem.W.findIn K (.ref c_Book) "step" = some (some (.ref f9))) (mf9 : PySem.W.isFn K (.ref f9) = true)
    (l9 : K.lookup f9 = some ⟨oc9, od9, .func (PySem.W.fnOf "step" "Book.step" (defArgs s_Book_step) (defBody s_Book_step) (defScope s_Book_step) .none kV9 dc9 pm9 an9 cd9 ct9), sl9⟩) (c9 : PySem.W.codeIn K cd9 "Book.step" = true) (k9 : PySem.W.keepIn K (.ref f9) = true)
    (mi10 : PySem.W.findIn K (.ref c_Book) "given" = some (some (.ref f10))) (mf10 : PySem.W.isFn K (.ref f10) = true)
    (l10 : K.lookup f10 = some ⟨oc10, od10, .func (PySem.W.fnOf "given" "Book.given" (defArgs s_Book_given) (defBody s_Book_given) (defScope s_Book_given) .none kV10 dc10 pm10 an10 cd10 ct10), sl10⟩) (c10 : PySem.W.codeIn K cd10 "Book.given" = true) (k10 : PySem.W.keepIn K (.ref f10) = true)
    (mi23 : PySem.W.findIn K (.ref c_Wish) "__and__" = some (some (.ref f23))) (mf23 : PySem.W.isFn K (.ref f23) = true)
    (l23 : K.lookup f23 = some ⟨oc23, od23, .func (PySem.W.fnOf "__and__" "Wish.__and__" (defArgs s_Wish___and__) (defBody s_Wish___and__) (defScope s_Wish___and__) .none kV23 dc23 pm23 an23 cd23 ct23), sl23⟩) (c23 : PySem.W.codeIn K cd23 "Wish.__and__" = true) (k23 : PySem.W.keepIn K (.ref f23) = true)
    (mi24 : PySem.W.findIn K (.ref c_Wish) "__or__" = some (some (.ref f24))) (mf24 : PySem.W.isFn K (.ref f24) = true)
    (l24 : K.lookup f24 = some ⟨oc24, od24, .func (PySem.W.fnOf "__or__" "Wish.__or__" (defArgs s_Wish___or__) (defBody s_Wish___or__) (defScope s_Wish___or__) .none kV24 dc24 pm24 an24 cd24 ct24), sl24⟩) (c24 : PySem.W.codeIn K cd24 "Wish.__or__" = true) (k24 : PySem.W.keepIn K (.ref f24) = true)
    (mi25 : PySem.W.findIn K (.ref c_Wish) "__eq__" = some (some (.ref f25))) (mf25 : PySem.W.isFn K (.ref f25) = true)
    (l25 : K.lookup f25 = some ⟨oc25, od25, .func (PySem.W.fnOf "__eq__" "Wish.__eq__" (defArgs s_Wish___eq__) (defBody s_Wish___eq__) (defScope s_Wish___eq__) .none kV25 dc25 pm25 an25 cd25 ct25), sl25⟩) (c25 : PySem.W.codeIn K cd25 "Wish.__eq__" = true) (k25 : PySem.W.keepIn K (.ref f25) = true)
    (mi26 : PySem.W.findIn K (.ref c_FewPieces) "__init__" = some (some (.ref f26))) (mf26 : PySem.W.isFn K (.ref f26) = true)
    (l26 : K.lookup f26 = some ⟨oc26, od26, .func (PySem.W.fnOf "__init__" "FewPieces.__init__" (defArgs s_FewPieces___init__) (defBody s_FewPieces___init__) (defScope s_FewPieces___init__) .none kV26 dc26 pm26 an26 cd26 ct26), sl26⟩) (c26 : PySem.W.codeIn K cd26 "FewPieces.__init__" = true) (k26 : PySem.W.keepIn K (.ref f26) = true)
    (mi27 : PySem.W.findIn K (.ref c_FewPieces) "__call__" = some (some (.ref f27))) (mf27 : PySem.W.isFn K (.ref f27) = true)
    (l27 : K.lookup f27 = some ⟨oc27, od27, .func (PySem.W.fnOf "__call__" "FewPieces.__call__" (defArgs s_FewPieces___call__) (defBody s_FewPieces___call__) (defScope s_FewPieces___call__) .none kV27 dc27 pm27 an27 cd27 ct27), sl27⟩) (c27 : PySem.W.codeIn K cd27 "FewPieces.__call__" = true) (k27 : PySem.W.keepIn K (.ref f27) = true)
    (fc27 : PySem.W.fnIn K f27 = true)
    (mi28 : PySem.W.findIn K (.ref c_FewPieces) "shown" = some (some (.ref f28))) (mf28 : PySem.W.isFn K (.ref f28) = true)
    (l28 : K.lookup f28 = some ⟨oc28, od28, .func (PySem.W.fnOf "shown" "FewPieces.shown" (defArgs s_FewPieces_shown) (defBody s_FewPieces_shown) (defScope s_FewPieces_shown) .none kV28 dc28 pm28 an28 cd28 ct28), sl28⟩) (c28 : PySem.W.codeIn K cd28 "FewPieces.shown" = true) (k28 : PySem.W.keepIn K (.ref f28) = true)
    (fc28 : PySem.W.fnIn K f28 = true)
    (mi29 : PySem.W.findIn K (.ref c_LittleIdle) "__init__" = some (some (.ref f29))) (mf29 : PySem.W.isFn K (.ref f29) = true)
    (l29 : K.lookup f29 = some ⟨oc29, od29, .func (PySem.W.fnOf "__init__" "LittleIdle.__init__" (defArgs s_LittleIdle___init__) (defBody s_LittleIdle___init__) (defScope s_LittleIdle___init__) .none kV29 dc29 pm29 an29 cd29 ct29), sl29⟩) (c29 : PySem.W.codeIn K cd29 "LittleIdle.__init__" = true) (k29 : PySem.W.keepIn K (.ref f29) = true)
    (mi30 : PySem.W.findIn K (.ref c_LittleIdle) "__call__" = some (some (.ref f30))) (mf30 : PySem.W.isFn K (.ref f30) = true)
    (l30 : K.lookup f30 = some ⟨oc30, od30, .func (PySem.W.fnOf "__call__" "LittleIdle.__call__" (defArgs s_LittleIdle___call__) (defBody s_LittleIdle___call__) (defScope s_LittleIdle___call__) .none kV30 dc30 pm30 an30 cd30 ct30), sl30⟩) (c30 : PySem.W.codeIn K cd30 "LittleIdle.__call__" = true) (k30 : PySem.W.keepIn K (.ref f30) = true)
    (fc30 : PySem.W.fnIn K f30 = true)
    (mi31 : PySem.W.findIn K (.ref c_LittleIdle) "shown" = some (some (.ref f31))) (mf31 : PySem.W.isFn K (.ref f31) = true)
    (l31 : K.lookup f31 = some ⟨oc31, od31, .func (PySem.W.fnOf "shown" "LittleIdle.shown" (defArgs s_LittleIdle_shown) (defBody s_LittleIdle_shown) (defScope s_LittleIdle_shown) .none kV31 dc31 pm31 an31 cd31 ct31), sl31⟩) (c31 : PySem.W.codeIn K cd31 "LittleIdle.shown" = true) (k31 : PySem.W.keepIn K (.ref f31) = true)
    (fc31 : PySem.W.fnIn K f31 = true)
    (mi32 : PySem.W.findIn K (.ref c_NoRefusal) "__init__" = some (some (.ref f32))) (mf32 : PySem.W.isFn K (.ref f32) = true)
    (l32 : K.lookup f32 = some ⟨oc32, od32, .func (PySem.W.fnOf "__init__" "NoRefusal.__init__" (defArgs s_NoRefusal___init__) (defBody s_NoRefusal___init__) (defScope s_NoRefusal___init__) .none kV32 dc32 pm32 an32 cd32 ct32), sl32⟩) (c32 : PySem.W.codeIn K cd32 "NoRefusal.__init__" = true) (k32 : PySem.W.keepIn K (.ref f32) = true)
    (mi33 : PySem.W.findIn K (.ref c_NoRefusal) "__call__" = some (some (.ref f33))) (mf33 : PySem.W.isFn K (.ref f33) = true)
    (l33 : K.lookup f33 = some ⟨oc33, od33, .func (PySem.W.fnOf "__call__" "NoRefusal.__call__" (defArgs s_NoRefusal___call__) (defBody s_NoRefusal___call__) (defScope s_NoRefusal___call__) .none kV33 dc33 pm33 an33 cd33 ct33), sl33⟩) (c33 : PySem.W.codeIn K cd33 "NoRefusal.__call__" = true) (k33 : PySem.W.keepIn K (.ref f33) = true)
    (fc33 : PySem.W.fnIn K f33 = true)
    (mi34 : PySem.W.findIn K (.ref c_NoRefusal) "shown" = some (some (.ref f34))) (mf34 : PySem.W.isFn K (.ref f34) = true)
    (l34 : K.lookup f34 = some ⟨oc34, od34, .func (PySem.W.fnOf "shown" "NoRefusal.shown" (defArgs s_NoRefusal_shown) (defBody s_NoRefusal_shown) (defScope s_NoRefusal_shown) .none kV34 dc34 pm34 an34 cd34 ct34), sl34⟩) (c34 : PySem.W.codeIn K cd34 "NoRefusal.shown" = true) (k34 : PySem.W.keepIn K (.ref f34) = true)
    (fc34 : PySem.W.fnIn K f34 = true)
    (mi35 : PySem.W.findIn K (.ref c_BothWishes) "__init__" = some (some (.ref f35))) (mf35 : PySem.W.isFn K (.ref f35) = true)
    (l35 : K.lookup f35 = some ⟨oc35, od35, .func (PySem.W.fnOf "__init__" "BothWishes.__init__" (defArgs s_BothWishes___init__) (defBody s_BothWishes___init__) (defScope s_BothWishes___init__) .none kV35 dc35 pm35 an35 cd35 ct35), sl35⟩) (c35 : PySem.W.codeIn K cd35 "BothWishes.__init__" = true) (k35 : PySem.W.keepIn K (.ref f35) = true)
    (mi36 : PySem.W.findIn K (.ref c_BothWishes) "__call__" = some (some (.ref f36))) (mf36 : PySem.W.isFn K (.ref f36) = true)
    (l36 : K.lookup f36 = some ⟨oc36, od36, .func (PySem.W.fnOf "__call__" "BothWishes.__call__" (defArgs s_BothWishes___call__) (defBody s_BothWishes___call__) (defScope s_BothWishes___call__) .none kV36 dc36 pm36 an36 cd36 ct36), sl36⟩) (c36 : PySem.W.codeIn K cd36 "BothWishes.__call__" = true) (k36 : PySem.W.keepIn K (.ref f36) = true)
    (fc36 : PySem.W.fnIn K f36 = true)
    (mi37 : PySem.W.findIn K (.ref c_BothWishes) "shown" = some (some (.ref f37))) (mf37 : PySem.W.isFn K (.ref f37) = true)
    (l37 : K.lookup f37 = some ⟨oc37, od37, .func (PySem.W.fnOf "shown" "BothWishes.shown" (defArgs s_BothWishes_shown) (defBody s_BothWishes_shown) (defScope s_BothWishes_shown) .none kV37 dc37 pm37 an37 cd37 ct37), sl37⟩) (c37 : PySem.W.codeIn K cd37 "BothWishes.shown" = true) (k37 : PySem.W.keepIn K (.ref f37) = true)
    (fc37 : PySem.W.fnIn K f37 = true)
    (mi38 : PySem.W.findIn K (.ref c_EitherWish) "__init__" = some (some (.ref f38))) (mf38 : PySem.W.isFn K (.ref f38) = true)
    (l38 : K.lookup f38 = some ⟨oc38, od38, .func (PySem.W.fnOf "__init__" "EitherWish.__init__" (defArgs s_EitherWish___init__) (defBody s_EitherWish___init__) (defScope s_EitherWish___init__) .none kV38 dc38 pm38 an38 cd38 ct38), sl38⟩) (c38 : PySem.W.codeIn K cd38 "EitherWish.__init__" = true) (k38 : PySem.W.keepIn K (.ref f38) = true)
    (mi39 : PySem.W.findIn K (.ref c_EitherWish) "__call__" = some (some (.ref f39))) (mf39 : PySem.W.isFn K (.ref f39) = true)
    (l39 : K.lookup f39 = some ⟨oc39, od39, .func (PySem.W.fnOf "__call__" "EitherWish.__call__" (defArgs s_EitherWish___call__) (defBody s_EitherWish___call__) (defScope s_EitherWish___call__) .none kV39 dc39 pm39 an39 cd39 ct39), sl39⟩) (c39 : PySem.W.codeIn K cd39 "EitherWish.__call__" = true) (k39 : PySem.W.keepIn K (.ref f39) = true)
    (fc39 : PySem.W.fnIn K f39 = true)
    (mi40 : PySem.W.findIn K (.ref c_EitherWish) "shown" = some (some (.ref f40))) (mf40 : PySem.W.isFn K (.ref f40) = true)
    (l40 : K.lookup f40 = some ⟨oc40, od40, .func (PySem.W.fnOf "shown" "EitherWish.shown" (defArgs s_EitherWish_shown) (defBody s_EitherWish_shown) (defScope s_EitherWish_shown) .none kV40 dc40 pm40 an40 cd40 ct40), sl40⟩) (c40 : PySem.W.codeIn K cd40 "EitherWish.shown" = true) (k40 : PySem.W.keepIn K (.ref f40) = true)
    (fc40 : PySem.W.fnIn K f40 = true)
    (wpg_Book : PySem.W.plainGet K c_Book Str.empty = true)
    (whd_Book : PySem.W.hasDictIn K c_Book = true)
    (wpo_Book : PySem.W.plainOver K c_Book = true)
    (wsa_Book : PySem.W.findIn K (.ref c_Book) "__setattr__" = some (some (.builtin "object.__setattr__")))
    (wmk_Book : PySem.W.makesIn K c_Book = true)
    (wkp_Book : PySem.W.keepIn K (.ref c_Book) = true)
    (wpg_BothWishes : PySem.W.plainGet K c_BothWishes Str.empty = true)
    (whd_BothWishes : PySem.W.hasDictIn K c_BothWishes = true)
    (wpo_BothWishes : PySem.W.plainOver K c_BothWishes = true)
    (wsa_BothWishes : PySem.W.findIn K (.ref c_BothWishes) "__setattr__" = some (some (.builtin "object.__setattr__")))
    (wmk_BothWishes : PySem.W.makesIn K c_BothWishes = true)
    (wkp_BothWishes : PySem.W.keepIn K (.ref c_BothWishes) = true)
    (wpg_Wish : PySem.W.plainGet K c_Wish Str.empty = true)
    (whd_Wish : PySem.W.hasDictIn K c_Wish = true)
    (wpo_Wish : PySem.W.plainOver K c_Wish = true)
    (wsa_Wish : PySem.W.findIn K (.ref c_Wish) "__setattr__" = some (some (.builtin "object.__setattr__")))
    (wpg_EitherWish : PySem.W.plainGet K c_EitherWish Str.empty = true)
    (whd_EitherWish : PySem.W.hasDictIn K c_EitherWish = true)
    (wpo_EitherWish : PySem.W.plainOver K c_EitherWish = true)
    (wsa_EitherWish : PySem.W.findIn K (.ref c_EitherWish) "__setattr__" = some (some (.builtin "object.__setattr__")))
    (wmk_EitherWish : PySem.W.makesIn K c_EitherWish = true)
    (wkp_EitherWish : PySem.W.keepIn K (.ref c_EitherWish) = true)
    (wpg_FewPieces : PySem.W.plainGet K c_FewPieces Str.empty = true)
    (whd_FewPieces : PySem.W.hasDictIn K c_FewPieces = true)
    (wpo_FewPieces : PySem.W.plainOver K c_FewPieces = true)
    (wsa_FewPieces : PySem.W.findIn K (.ref c_FewPieces) "__setattr__" = some (some (.builtin "object.__setattr__")))
    (wmk_FewPieces : PySem.W.makesIn K c_FewPieces = true)
    (wkp_FewPieces : PySem.W.keepIn K (.ref c_FewPieces) = true)
    (wpg_LittleIdle : PySem.W.plainGet K c_LittleIdle Str.empty = true)
    (whd_LittleIdle : PySem.W.hasDictIn K c_LittleIdle = true)
    (wpo_LittleIdle : PySem.W.plainOver K c_LittleIdle = true)
    (wsa_LittleIdle : PySem.W.findIn K (.ref c_LittleIdle) "__setattr__" = some (some (.builtin "object.__setattr__")))
    (wmk_LittleIdle : PySem.W.makesIn K c_LittleIdle = true)
    (wkp_LittleIdle : PySem.W.keepIn K (.ref c_LittleIdle) = true)
    (wpg_NoRefusal : PySem.W.plainGet K c_NoRefusal Str.empty = true)
    (whd_NoRefusal : PySem.W.hasDictIn K c_NoRefusal = true)
    (wpo_NoRefusal : PySem.W.plainOver K c_NoRefusal = true)
    (wsa_NoRefusal : PySem.W.findIn K (.ref c_NoRefusal) "__setattr__" = some (some (.builtin "object.__setattr__")))
    (wmk_NoRefusal : PySem.W.makesIn K c_NoRefusal = true)
    (wkp_NoRefusal : PySem.W.keepIn K (.ref c_NoRefusal) = true)
    (wcl_Book : PySem.W.findIn K (.ref c_Book) "__class__" = some (some (.builtin "object.__class__")))
    (wsp_Book : PySem.W.specialIn K (.builtin "object.__class__") "__get__" = some (some (.builtin "getset_descriptor.__get__")))
    (wtk_Book : PySem.W.takesIn K (.builtin "object.__class__") = some true)
    (wmr_Book : PySem.W.mroIn K c_Book (.type "object") = some true)
    (wsf_BothWishes : PySem.W.selfFirst K c_BothWishes = true)
    (wcl_BothWishes : PySem.W.findIn K (.ref c_BothWishes) "__class__" = some (some (.builtin "object.__class__")))
    (wsp_BothWishes : PySem.W.specialIn K (.builtin "object.__class__") "__get__" = some (some (.builtin "getset_descriptor.__get__")))
    (wtk_BothWishes : PySem.W.takesIn K (.builtin "object.__class__") = some true)
    (wmr_BothWishes : PySem.W.mroIn K c_BothWishes (.type "object") = some true)
    (wsf_Wish : PySem.W.selfFirst K c_Wish = true)
    (wcl_Wish : PySem.W.findIn K (.ref c_Wish) "__class__" = some (some (.builtin "object.__class__")))
    (wsp_Wish : PySem.W.specialIn K (.builtin "object.__class__") "__get__" = some (some (.builtin "getset_descriptor.__get__")))
    (wtk_Wish : PySem.W.takesIn K (.builtin "object.__class__") = some true)
    (wmr_Wish : PySem.W.mroIn K c_Wish (.type "object") = some true)
    (wsf_EitherWish : PySem.W.selfFirst K c_EitherWish = true)
    (wcl_EitherWish : PySem.W.findIn K (.ref c_EitherWish) "__class__" = some (some (.builtin "object.__class__")))
    (wsp_EitherWish : PySem.W.specialIn K (.builtin "object.__class__") "__get__" = some (some (.builtin "getset_descriptor.__get__")))
    (wtk_EitherWish : PySem.W.takesIn K (.builtin "object.__class__") = some true)
    (wmr_EitherWish : PySem.W.mroIn K c_EitherWish (.type "object") = some true)
    (wsf_FewPieces : PySem.W.selfFirst K c_FewPieces = true)
    (wcl_FewPieces : PySem.W.findIn K (.ref c_FewPieces) "__class__" = some (some (.builtin "object.__class__")))
    (wsp_FewPieces : PySem.W.specialIn K (.builtin "object.__class__") "__get__" = some (some (.builtin "getset_descriptor.__get__")))
    (wtk_FewPieces : PySem.W.takesIn K (.builtin "object.__class__") = some true)
    (wmr_FewPieces : PySem.W.mroIn K c_FewPieces (.type "object") = some true)
    (wsf_LittleIdle : PySem.W.selfFirst K c_LittleIdle = true)
    (wcl_LittleIdle : PySem.W.findIn K (.ref c_LittleIdle) "__class__" = some (some (.builtin "object.__class__")))
    (wsp_LittleIdle : PySem.W.specialIn K (.builtin "object.__class__") "__get__" = some (some (.builtin "getset_descriptor.__get__")))
    (wtk_LittleIdle : PySem.W.takesIn K (.builtin "object.__class__") = some true)
    (wmr_LittleIdle : PySem.W.mroIn K c_LittleIdle (.type "object") = some true)
    (wsf_NoRefusal : PySem.W.selfFirst K c_NoRefusal = true)
    (wcl_NoRefusal : PySem.W.findIn K (.ref c_NoRefusal) "__class__" = some (some (.builtin "object.__class__")))
    (wsp_NoRefusal : PySem.W.specialIn K (.builtin "object.__class__") "__get__" = some (some (.builtin "getset_descriptor.__get__")))
    (wtk_NoRefusal : PySem.W.takesIn K (.builtin "object.__class__") = some true)
    (wmr_NoRefusal : PySem.W.mroIn K c_NoRefusal (.type "object") = some true)
    (wk_non_Wish : PySem.W.kitOne K (.type "NoneType") (.ref c_Wish) = some false)
    (wk_bl_Wish : PySem.W.kitOne K (.type "bool") (.ref c_Wish) = some false)
    (wk_int_Wish : PySem.W.kitOne K (.type "int") (.ref c_Wish) = some false)
    (wk_str_Wish : PySem.W.kitOne K (.type "str") (.ref c_Wish) = some false)
    (wk_tup_Wish : PySem.W.kitOne K (.type "tuple") (.ref c_Wish) = some false)
    (wk_lst_Wish : PySem.W.kitOne K (.type "list") (.ref c_Wish) = some false)
    (wi_Book_Wish : PySem.W.kitOne K (.ref c_Book) (.ref c_Wish) = some false)
    (wi_BothWishes_Wish : PySem.W.kitOne K (.ref c_BothWishes) (.ref c_Wish) = some true)
    (wi_Wish_Wish : PySem.W.kitOne K (.ref c_Wish) (.ref c_Wish) = some true)
    (wi_EitherWish_Wish : PySem.W.kitOne K (.ref c_EitherWish) (.ref c_Wish) = some true)
    (wi_FewPieces_Wish : PySem.W.kitOne K (.ref c_FewPieces) (.ref c_Wish) = some true)
    (wi_LittleIdle_Wish : PySem.W.kitOne K (.ref c_LittleIdle) (.ref c_Wish) = some true)
    (wi_NoRefusal_Wish : PySem.W.kitOne K (.ref c_NoRefusal) (.ref c_Wish) = some true)
    (wnf_FewPieces_FewPieces : PySem.W.notFirst K c_FewPieces (.ref c_FewPieces) = true)
    (wnf_FewPieces_LittleIdle : PySem.W.notFirst K c_FewPieces (.ref c_LittleIdle) = true)
    (wnf_FewPieces_NoRefusal : PySem.W.notFirst K c_FewPieces (.ref c_NoRefusal) = true)
    (wnf_FewPieces_BothWishes : PySem.W.notFirst K c_FewPieces (.ref c_BothWishes) = true)
    (wnf_FewPieces_EitherWish : PySem.W.notFirst K c_FewPieces (.ref c_EitherWish) = true)
    (wnf_LittleIdle_FewPieces : PySem.W.notFirst K c_LittleIdle (.ref c_FewPieces) = true)
    (wnf_LittleIdle_LittleIdle : PySem.W.notFirst K c_LittleIdle (.ref c_LittleIdle) = true)
    (wnf_LittleIdle_NoRefusal : PySem.W.notFirst K c_LittleIdle (.ref c_NoRefusal) = true)
    (wnf_LittleIdle_BothWishes : PySem.W.notFirst K c_LittleIdle (.ref c_BothWishes) = true)
    (wnf_LittleIdle_EitherWish : PySem.W.notFirst K c_LittleIdle (.ref c_EitherWish) = true)
    (wnf_NoRefusal_FewPieces : PySem.W.notFirst K c_NoRefusal (.ref c_FewPieces) = true)
    (wnf_NoRefusal_LittleIdle : PySem.W.notFirst K c_NoRefusal (.ref c_LittleIdle) = true)
    (wnf_NoRefusal_NoRefusal : PySem.W.notFirst K c_NoRefusal (.ref c_NoRefusal) = true)
    (wnf_NoRefusal_BothWishes : PySem.W.notFirst K c_NoRefusal (.ref c_BothWishes) = true)
    (wnf_NoRefusal_EitherWish : PySem.W.notFirst K c_NoRefusal (.ref c_EitherWish) = true)
    (wnf_BothWishes_FewPieces : PySem.W.notFirst K c_BothWishes (.ref c_FewPieces) = true)
    (wnf_BothWishes_LittleIdle : PySem.W.notFirst K c_BothWishes (.ref c_LittleIdle) = true)
    (wnf_BothWishes_NoRefusal : PySem.W.notFirst K c_BothWishes (.ref c_NoRefusal) = true)
    (wnf_BothWishes_BothWishes : PySem.W.notFirst K c_BothWishes (.ref c_BothWishes) = true)
    (wnf_BothWishes_EitherWish : PySem.W.notFirst K c_BothWishes (.ref c_EitherWish) = true)
    (wnf_EitherWish_FewPieces : PySem.W.notFirst K c_EitherWish (.ref c_FewPieces) = true)
    (wnf_EitherWish_LittleIdle : PySem.W.notFirst K c_EitherWish (.ref c_LittleIdle) = true)
    (wnf_EitherWish_NoRefusal : PySem.W.notFirst K c_EitherWish (.ref c_NoRefusal) = true)
    (wnf_EitherWish_BothWishes : PySem.W.notFirst K c_EitherWish (.ref c_BothWishes) = true)
    (wnf_EitherWish_EitherWish : PySem.W.notFirst K c_EitherWish (.ref c_EitherWish) = true)
    (wfm_FewPieces_Wish___and__ : PySem.W.findIn K (.ref c_FewPieces) "__and__" = some (some (.ref f23)))
    (wnr_FewPieces_Wish___and__ : PySem.W.findIn K (.ref c_FewPieces) "__rand__" = some none)
    (wfm_LittleIdle_Wish___and__ : PySem.W.findIn K (.ref c_LittleIdle) "__and__" = some (some (.ref f23)))
    (wnr_LittleIdle_Wish___and__ : PySem.W.findIn K (.ref c_LittleIdle) "__rand__" = some none)
    (wfm_NoRefusal_Wish___and__ : PySem.W.findIn K (.ref c_NoRefusal) "__and__" = some (some (.ref f23)))
    (wnr_NoRefusal_Wish___and__ : PySem.W.findIn K (.ref c_NoRefusal) "__rand__" = some none)
    (wfm_BothWishes_Wish___and__ : PySem.W.findIn K (.ref c_BothWishes) "__and__" = some (some (.ref f23)))
    (wnr_BothWishes_Wish___and__ : PySem.W.findIn K (.ref c_BothWishes) "__rand__" = some none)
    (wfm_EitherWish_Wish___and__ : PySem.W.findIn K (.ref c_EitherWish) "__and__" = some (some (.ref f23)))
    (wnr_EitherWish_Wish___and__ : PySem.W.findIn K (.ref c_EitherWish) "__rand__" = some none)
    (wfm_FewPieces_Wish___or__ : PySem.W.findIn K (.ref c_FewPieces) "__or__" = some (some (.ref f24)))
    (wnr_FewPieces_Wish___or__ : PySem.W.findIn K (.ref c_FewPieces) "__ror__" = some none)
    (wfm_LittleIdle_Wish___or__ : PySem.W.findIn K (.ref c_LittleIdle) "__or__" = some (some (.ref f24)))
    (wnr_LittleIdle_Wish___or__ : PySem.W.findIn K (.ref c_LittleIdle) "__ror__" = some none)
    (wfm_NoRefusal_Wish___or__ : PySem.W.findIn K (.ref c_NoRefusal) "__or__" = some (some (.ref f24)))
    (wnr_NoRefusal_Wish___or__ : PySem.W.findIn K (.ref c_NoRefusal) "__ror__" = some none)
    (wfm_BothWishes_Wish___or__ : PySem.W.findIn K (.ref c_BothWishes) "__or__" = some (some (.ref f24)))
    (wnr_BothWishes_Wish___or__ : PySem.W.findIn K (.ref c_BothWishes) "__ror__" = some none)
    (wfm_EitherWish_Wish___or__ : PySem.W.findIn K (.ref c_EitherWish) "__or__" = some (some (.ref f24)))
    (wnr_EitherWish_Wish___or__ : PySem.W.findIn K (.ref c_EitherWish) "__ror__" = some none)
    (wfm_FewPieces_Wish___eq__ : PySem.W.findIn K (.ref c_FewPieces) "__eq__" = some (some (.ref f25)))
    (wfm_LittleIdle_Wish___eq__ : PySem.W.findIn K (.ref c_LittleIdle) "__eq__" = some (some (.ref f25)))
    (wfm_NoRefusal_Wish___eq__ : PySem.W.findIn K (.ref c_NoRefusal) "__eq__" = some (some (.ref f25)))
    (wfm_BothWishes_Wish___eq__ : PySem.W.findIn K (.ref c_BothWishes) "__eq__" = some (some (.ref f25)))
    (wfm_EitherWish_Wish___eq__ : PySem.W.findIn K (.ref c_EitherWish) "__eq__" = some (some (.ref f25)))
    (wn_Book_own_share : PySem.W.findIn K (.ref c_Book) "own_share" = some none)
    (wn_Book_own_roof : PySem.W.findIn K (.ref c_Book) "own_roof" = some none)
    (wn_Book_own_first : PySem.W.findIn K (.ref c_Book) "own_first" = some none)
    (wn_FewPieces_most : PySem.W.findIn K (.ref c_FewPieces) "most" = some none)
    (wn_FewPieces_size : PySem.W.findIn K (.ref c_FewPieces) "size" = some none)
    (wn_LittleIdle_most : PySem.W.findIn K (.ref c_LittleIdle) "most" = some none)
    (wn_LittleIdle_size : PySem.W.findIn K (.ref c_LittleIdle) "size" = some none)
    (wn_NoRefusal_at_least : PySem.W.findIn K (.ref c_NoRefusal) "at_least" = some none)
    (wn_NoRefusal_files : PySem.W.findIn K (.ref c_NoRefusal) "files" = some none)
    (wn_NoRefusal_blocks : PySem.W.findIn K (.ref c_NoRefusal) "blocks" = some none)
    (wn_BothWishes_other : PySem.W.findIn K (.ref c_BothWishes) "other" = some none)
    (wn_BothWishes_one : PySem.W.findIn K (.ref c_BothWishes) "one" = some none)
    (wn_EitherWish_other : PySem.W.findIn K (.ref c_EitherWish) "other" = some none)
    (wn_EitherWish_one : PySem.W.findIn K (.ref c_EitherWish) "one" = some none)
    (xL_InvalidNumber : K.lookup c_InvalidNumber = some (excClassObj xnm_InvalidNumber xq_InvalidNumber c_InvalidNumber xN_InvalidNumber xbs_InvalidNumber [.ref c_GrowError, .type "ValueError", .type "Exception", .type "BaseException", .type "object"] true xsn_InvalidNumber xsub_InvalidNumber xab_InvalidNumber xcol_InvalidNumber xdd_InvalidNumber m0_InvalidNumber m1_InvalidNumber m2_InvalidNumber m3_InvalidNumber m5_InvalidNumber "ValueError.__new__"))
    (xsa_InvalidNumber : PySem.W.findIn K (.ref c_InvalidNumber) "__setattr__" = some (some (.builtin "object.__setattr__")))
    (xga_InvalidNumber : PySem.W.findIn K (.ref c_InvalidNumber) "__getattribute__" = some (some (.builtin "BaseException.__getattribute__")))
    (xgg_InvalidNumber : PySem.W.findIn K (.ref c_InvalidNumber) "__getattr__" = some none)
    (xnf_InvalidNumber : PySem.W.findIn K (.ref c_InvalidNumber) "number" = some none)
    (xi_InvalidNumber : PySem.W.findIn K (.ref c_InvalidNumber) "__init__" = some (some (.ref i_InvalidNumber)))
    (xt_InvalidNumber : PySem.W.typeIn K (.ref i_InvalidNumber) = some (.type "function"))
    (xl_InvalidNumber : K.lookup i_InvalidNumber = some ⟨oc_InvalidNumber, od_InvalidNumber, .func (PySem.W.fnOf "__init__" "InvalidNumber.__init__" (defArgs si_InvalidNumber) (defBody si_InvalidNumber) (defScope si_InvalidNumber) .none kV_InvalidNumber dc_InvalidNumber pm_InvalidNumber an_InvalidNumber cd_InvalidNumber ct_InvalidNumber), sl_InvalidNumber⟩)
    (xc_InvalidNumber : PySem.W.codeIn K cd_InvalidNumber "InvalidNumber.__init__" = true)
    (xki_InvalidNumber : PySem.W.keepIn K (.ref i_InvalidNumber) = true)
    (xk_InvalidNumber : PySem.W.keepIn K (.ref c_InvalidNumber) = true)
    (xe_InvalidNumber : PySem.W.subIn K (.ref c_InvalidNumber) (.type "BaseException") = some true)
    (xty_InvalidNumber : PySem.W.typeIn K (.ref c_InvalidNumber) = some (.type "type"))
    (xh_InvalidNumber : PySem.W.hasDictIn K c_InvalidNumber = true)
    (xcl_InvalidNumber : PySem.W.findIn K (.ref c_InvalidNumber) "__class__" = some (some (.builtin "object.__class__")))
    (xsp_InvalidNumber : PySem.W.specialIn K (.builtin "object.__class__") "__get__" = some (some (.builtin "getset_descriptor.__get__")))
    (xtk_InvalidNumber : PySem.W.takesIn K (.builtin "object.__class__") = some true)
    (xm_InvalidNumber : PySem.W.mroIn K c_InvalidNumber (.type "object") = some true)
    (xL_InvalidBook : K.lookup c_InvalidBook = some (excClassObj xnm_InvalidBook xq_InvalidBook c_InvalidBook xN_InvalidBook xbs_InvalidBook [.ref c_GrowError, .type "ValueError", .type "Exception", .type "BaseException", .type "object"] true xsn_InvalidBook xsub_InvalidBook xab_InvalidBook xcol_InvalidBook xdd_InvalidBook m0_InvalidBook m1_InvalidBook m2_InvalidBook m3_InvalidBook m5_InvalidBook "ValueError.__new__"))
    (xsa_InvalidBook : PySem.W.findIn K (.ref c_InvalidBook) "__setattr__" = some (some (.builtin "object.__setattr__")))
    (xga_InvalidBook : PySem.W.findIn K (.ref c_InvalidBook) "__getattribute__" = some (some (.builtin "BaseException.__getattribute__")))
    (xgg_InvalidBook : PySem.W.findIn K (.ref c_InvalidBook) "__getattr__" = some none)
    (xnf_InvalidBook : PySem.W.findIn K (.ref c_InvalidBook) "part" = some none)
    (xi_InvalidBook : PySem.W.findIn K (.ref c_InvalidBook) "__init__" = some (some (.ref i_InvalidBook)))
    (xt_InvalidBook : PySem.W.typeIn K (.ref i_InvalidBook) = some (.type "function"))
    (xl_InvalidBook : K.lookup i_InvalidBook = some ⟨oc_InvalidBook, od_InvalidBook, .func (PySem.W.fnOf "__init__" "InvalidBook.__init__" (defArgs si_InvalidBook) (defBody si_InvalidBook) (defScope si_InvalidBook) .none kV_InvalidBook dc_InvalidBook pm_InvalidBook an_InvalidBook cd_InvalidBook ct_InvalidBook), sl_InvalidBook⟩)
    (xc_InvalidBook : PySem.W.codeIn K cd_InvalidBook "InvalidBook.__init__" = true)
    (xki_InvalidBook : PySem.W.keepIn K (.ref i_InvalidBook) = true)
    (xk_InvalidBook : PySem.W.keepIn K (.ref c_InvalidBook) = true)
    (xe_InvalidBook : PySem.W.subIn K (.ref c_InvalidBook) (.type "BaseException") = some true)
    (xty_InvalidBook : PySem.W.typeIn K (.ref c_InvalidBook) = some (.type "type"))
    (xh_InvalidBook : PySem.W.hasDictIn K c_InvalidBook = true)
    (xcl_InvalidBook : PySem.W.findIn K (.ref c_InvalidBook) "__class__" = some (some (.builtin "object.__class__")))
    (xsp_InvalidBook : PySem.W.specialIn K (.builtin "object.__class__") "__get__" = some (some (.builtin "getset_descriptor.__get__")))
    (xtk_InvalidBook : PySem.W.takesIn K (.builtin "object.__class__") = some true)
    (xm_InvalidBook : PySem.W.mroIn K c_InvalidBook (.type "object") = some true)
    (ye_GrowError : PySem.W.subIn K (.ref c_GrowError) (.type "BaseException") = some true) (yh_GrowError : PySem.W.hasDictIn K c_GrowError = true) (yt_GrowError : PySem.W.typeIn K (.ref c_GrowError) = some (.type "type"))
    (ys_InvalidNumber_GrowError : PySem.W.subIn K (.ref c_InvalidNumber) (.ref c_GrowError) = some true)
    (ys_InvalidBook_GrowError : PySem.W.subIn K (.ref c_InvalidBook) (.ref c_GrowError) = some true)
    (yk_InvalidNumber_InvalidNumber : PySem.W.kitOne K (.ref c_InvalidNumber) (.ref c_InvalidNumber) = some true)
    (yk_InvalidBook_InvalidNumber : PySem.W.kitOne K (.ref c_InvalidBook) (.ref c_InvalidNumber) = some false)
    (yk_InvalidNumber_InvalidChoice : PySem.W.kitOne K (.ref c_InvalidNumber) (.ref c_InvalidChoice) = some false)
    (yk_InvalidBook_InvalidChoice : PySem.W.kitOne K (.ref c_InvalidBook) (.ref c_InvalidChoice) = some false) :
    ∃ fd : FuncData, (∀ (s : Shared) (v : Value), BindsTo s fd ⟨[v], []⟩ [("_law_script", v)]) ∧ ∀ base : Heap, K.In base → base.Ns mainGlobals mg → FnOk l.prog w K mg base (L2.CX l.prog w) 14 fa fd ["_law_script"] (liftSp K 1 C_law) := by
  have e := hfa.symm.trans (PySem.W.mg_of X G a51)
  cases e
  have F1 := fun_mk (st := s_is_integer) l1 c1 k1
  have b1 := F1.binds (ps := ["thing", "least", "most"]) fun _ _ _ _ _ _ us hl => match us, hl with | [_, _, _], _ => rfl
  have F2 := fun_mk (st := s_check_integer) l2 c2 k2
  have b2 := F2.binds (ps := ["thing", "least", "most"]) fun _ _ _ _ _ _ us hl => match us, hl with | [_, _, _], _ => rfl
  have F3 := fun_mk (st := s_is_share) l3 c3 k3
  have b3 := F3.binds (ps := ["thing"]) fun _ _ _ _ _ _ us hl => match us, hl with | [_], _ => rfl
  have F4 := fun_mk (st := s_part_of) l4 c4 k4
  have b4 := F4.binds (ps := ["share", "hold"]) fun _ _ _ _ _ _ us hl => match us, hl with | [_, _], _ => rfl
  have F5 := fun_mk (st := s_check_parts) l5 c5 k5
  have b5 := F5.binds (ps := ["first", "roof", "share", "ahead"]) fun _ _ _ _ _ _ us hl => match us, hl with | [_, _, _, _], _ => rfl
  have F6 := fun_mk (st := s_Book___init__) l6 c6 k6
  have D6 := funD_of (st := s_Book___init__) (kws := [("share", .ref kt6_share)]) l6 c6 k6 (List.forall_mem_cons.mpr ⟨⟨_, kw6_share, rfl⟩, fun q hq => absurd hq List.not_mem_nil⟩)
  have kb1_6 := kbt_of (ps := ["self", "first", "roof", "share"]) D6 3 ["share"] [] [] [0] (fun ts zs => match ts, zs with | [x0, x1, x2], [k0] => [x0, x1, x2, k0] | _, _ => []) (fun z => nomatch z) (by simp) (fun _ _ => .nil) (fun ts us h1 h2 => match ts, us, h1, h2 with | [_, _, _], [_], _, _ => rfl) (fun _ _ _ _ _ _ us mv ws h1 h2 h3 => match us, mv, ws, h1, h2, h3 with | [_, _, _], [], [_], _, _, _ => rfl)
  have F7 := fun_mk (st := s_Book_first) l7 c7 k7
  have b7 := F7.binds (ps := ["self"]) fun _ _ _ _ _ _ us hl => match us, hl with | [_], _ => rfl
  have F8 := fun_mk (st := s_Book_roof) l8 c8 k8
  have b8 := F8.binds (ps := ["self"]) fun _ _ _ _ _ _ us hl => match us, hl with | [_], _ => rfl
  have F9 := fun_mk (st := s_Book_step) l9 c9 k9
  have b9 := F9.binds (ps := ["self", "hold"]) fun _ _ _ _ _ _ us hl => match us, hl with | [_, _], _ => rfl
  have F10 := fun_mk (st := s_Book_given) l10 c10 k10
  have b10 := F10.binds (ps := ["self", "hold"]) fun _ _ _ _ _ _ us hl => match us, hl with | [_, _], _ => rfl
  have F11 := fun_mk (st := s_ramp) l11 c11 k11
  have b11 := F11.binds (ps := ["book"]) fun _ _ _ _ _ _ us hl => match us, hl with | [_], _ => rfl
  have F12 := fun_mk (st := s_givings) l12 c12 k12
  have b12 := F12.binds (ps := ["book", "size"]) fun _ _ _ _ _ _ us hl => match us, hl with | [_, _], _ => rfl
  have F13 := fun_mk (st := s_most_pieces) l13 c13 k13
  have D13 := funD_of (st := s_most_pieces) (kws := [("back", .bl false)]) l13 c13 k13 (List.forall_mem_cons.mpr ⟨⟨_, kw13_back, rfl⟩, fun q hq => absurd hq List.not_mem_nil⟩)
  have kb0_13 := kbt_of (ps := ["book", "size", "back"]) D13 2 [] [("back", .bl false)] [(.bl false)] [0] (fun ts zs => match ts, zs with | [x0, x1], [] => [x0, x1, (.bl false)] | _, _ => []) (fun z => nomatch z) (by simp) (fun _ _ => .cons (.bl _) (.nil)) (fun ts us h1 h2 => match ts, us, h1, h2 with | [_, _], [], _, _ => rfl) (fun _ _ _ _ _ _ us mv ws h1 h2 h3 => match us, mv, ws, h1, h2, h3 with | [_, _], [_], [], _, _, _ => ⟨_, _, _, _, _, _, rfl, rfl, rfl⟩)
  have F14 := fun_mk (st := s_most_idle) l14 c14 k14
  have b14 := F14.binds (ps := ["book", "size"]) fun _ _ _ _ _ _ us hl => match us, hl with | [_, _], _ => rfl
  have F15 := fun_mk (st := s_check_blocks) l15 c15 k15
  have b15 := F15.binds (ps := ["blocks", "files", "least"]) fun _ _ _ _ _ _ us hl => match us, hl with | [_, _, _], _ => rfl
  have F16 := fun_mk (st := s_whole_choices) l16 c16 k16
  have b16 := F16.binds (ps := ["book", "blocks"]) fun _ _ _ _ _ _ us hl => match us, hl with | [_, _], _ => rfl
  have F17 := fun_mk (st := s_layers) l17 c17 k17
  have b17 := F17.binds (ps := ["choices", "blocks", "files"]) fun _ _ _ _ _ _ us hl => match us, hl with | [_, _, _], _ => rfl
  have F18 := fun_mk (st := s_growths_at) l18 c18 k18
  have b18 := F18.binds (ps := ["found", "files", "held"]) fun _ _ _ _ _ _ us hl => match us, hl with | [_, _, _], _ => rfl
  have F19 := fun_mk (st := s_short_choices) l19 c19 k19
  have b19 := F19.binds (ps := ["book", "blocks"]) fun _ _ _ _ _ _ us hl => match us, hl with | [_, _], _ => rfl
  have F20 := fun_mk (st := s_fullest) l20 c20 k20
  have b20 := F20.binds (ps := ["book", "blocks", "files"]) fun _ _ _ _ _ _ us hl => match us, hl with | [_, _, _], _ => rfl
  have F21 := fun_mk (st := s_least_refused) l21 c21 k21
  have b21 := F21.binds (ps := ["book", "blocks", "files"]) fun _ _ _ _ _ _ us hl => match us, hl with | [_, _, _], _ => rfl
  have F22 := fun_mk (st := s_never_refused) l22 c22 k22
  have b22 := F22.binds (ps := ["book", "blocks", "files"]) fun _ _ _ _ _ _ us hl => match us, hl with | [_, _, _], _ => rfl
  have F23 := fun_mk (st := s_Wish___and__) l23 c23 k23
  have b23 := F23.binds (ps := ["self", "other"]) fun _ _ _ _ _ _ us hl => match us, hl with | [_, _], _ => rfl
  have F24 := fun_mk (st := s_Wish___or__) l24 c24 k24
  have b24 := F24.binds (ps := ["self", "other"]) fun _ _ _ _ _ _ us hl => match us, hl with | [_, _], _ => rfl
  have F25 := fun_mk (st := s_Wish___eq__) l25 c25 k25
  have b25 := F25.binds (ps := ["self", "other"]) fun _ _ _ _ _ _ us hl => match us, hl with | [_, _], _ => rfl
  have F26 := fun_mk (st := s_FewPieces___init__) l26 c26 k26
  have b26 := F26.binds (ps := ["self", "size", "most"]) fun _ _ _ _ _ _ us hl => match us, hl with | [_, _, _], _ => rfl
  have kb26 := F26.kbw (ps := ["self", "size", "most"]) (n := 3) (ks := []) fun _ _ _ _ _ _ us ws l1 l2 => match us, ws, l1, l2 with | [_, _, _], [], _, _ => rfl
  have F27 := fun_mk (st := s_FewPieces___call__) l27 c27 k27
  have b27 := F27.binds (ps := ["self", "book"]) fun _ _ _ _ _ _ us hl => match us, hl with | [_, _], _ => rfl
  have F28 := fun_mk (st := s_FewPieces_shown) l28 c28 k28
  have b28 := F28.binds (ps := ["self"]) fun _ _ _ _ _ _ us hl => match us, hl with | [_], _ => rfl
  have F29 := fun_mk (st := s_LittleIdle___init__) l29 c29 k29
  have b29 := F29.binds (ps := ["self", "size", "most"]) fun _ _ _ _ _ _ us hl => match us, hl with | [_, _, _], _ => rfl
  have kb29 := F29.kbw (ps := ["self", "size", "most"]) (n := 3) (ks := []) fun _ _ _ _ _ _ us ws l1 l2 => match us, ws, l1, l2 with | [_, _, _], [], _, _ => rfl
  have F30 := fun_mk (st := s_LittleIdle___call__) l30 c30 k30
  have b30 := F30.binds (ps := ["self", "book"]) fun _ _ _ _ _ _ us hl => match us, hl with | [_, _], _ => rfl
  have F31 := fun_mk (st := s_LittleIdle_shown) l31 c31 k31
  have b31 := F31.binds (ps := ["self"]) fun _ _ _ _ _ _ us hl => match us, hl with | [_], _ => rfl
  have F32 := fun_mk (st := s_NoRefusal___init__) l32 c32 k32
  have b32 := F32.binds (ps := ["self", "blocks", "files", "least"]) fun _ _ _ _ _ _ us hl => match us, hl with | [_, _, _, _], _ => rfl
  have kb32 := F32.kbw (ps := ["self", "blocks", "files", "least"]) (n := 4) (ks := []) fun _ _ _ _ _ _ us ws l1 l2 => match us, ws, l1, l2 with | [_, _, _, _], [], _, _ => rfl
  have F33 := fun_mk (st := s_NoRefusal___call__) l33 c33 k33
  have b33 := F33.binds (ps := ["self", "book"]) fun _ _ _ _ _ _ us hl => match us, hl with | [_, _], _ => rfl
  have F34 := fun_mk (st := s_NoRefusal_shown) l34 c34 k34
  have b34 := F34.binds (ps := ["self"]) fun _ _ _ _ _ _ us hl => match us, hl with | [_], _ => rfl
  have F35 := fun_mk (st := s_BothWishes___init__) l35 c35 k35
  have b35 := F35.binds (ps := ["self", "one", "other"]) fun _ _ _ _ _ _ us hl => match us, hl with | [_, _, _], _ => rfl
  have kb35 := F35.kbw (ps := ["self", "one", "other"]) (n := 3) (ks := []) fun _ _ _ _ _ _ us ws l1 l2 => match us, ws, l1, l2 with | [_, _, _], [], _, _ => rfl
  have F36 := fun_mk (st := s_BothWishes___call__) l36 c36 k36
  have b36 := F36.binds (ps := ["self", "book"]) fun _ _ _ _ _ _ us hl => match us, hl with | [_, _], _ => rfl
  have F37 := fun_mk (st := s_BothWishes_shown) l37 c37 k37
  have b37 := F37.binds (ps := ["self"]) fun _ _ _ _ _ _ us hl => match us, hl with | [_], _ => rfl
  have F38 := fun_mk (st := s_EitherWish___init__) l38 c38 k38
  have b38 := F38.binds (ps := ["self", "one", "other"]) fun _ _ _ _ _ _ us hl => match us, hl with | [_, _, _], _ => rfl
  have kb38 := F38.kbw (ps := ["self", "one", "other"]) (n := 3) (ks := []) fun _ _ _ _ _ _ us ws l1 l2 => match us, ws, l1, l2 with | [_, _, _], [], _, _ => rfl
  have F39 := fun_mk (st := s_EitherWish___call__) l39 c39 k39
  have b39 := F39.binds (ps := ["self", "book"]) fun _ _ _ _ _ _ us hl => match us, hl with | [_, _], _ => rfl
  have F40 := fun_mk (st := s_EitherWish_shown) l40 c40 k40
  have b40 := F40.binds (ps := ["self"]) fun _ _ _ _ _ _ us hl => match us, hl with | [_], _ => rfl
  have F41 := fun_mk (st := s_law_hand) l41 c41 k41
  have b41 := F41.binds (ps := ["_law_script", "_law_k"]) fun _ _ _ _ _ _ us hl => match us, hl with | [_, _], _ => rfl
  have F42 := fun_mk (st := s_law_draw) l42 c42 k42
  have b42 := F42.binds (ps := ["_law_pool", "_law_many"]) fun _ _ _ _ _ _ us hl => match us, hl with | [_, _], _ => rfl
  have F43 := fun_mk (st := s_law_parts) l43 c43 k43
  have b43 := F43.binds (ps := ["_law_pool"]) fun _ _ _ _ _ _ us hl => match us, hl with | [_], _ => rfl
  have F44 := fun_mk (st := s_law_book) l44 c44 k44
  have b44 := F44.binds (ps := ["_law_parts_here"]) fun _ _ _ _ _ _ us hl => match us, hl with | [_], _ => rfl
  have F45 := fun_mk (st := s_law_wish) l45 c45 k45
  have b45 := F45.binds (ps := ["_law_pool", "_law_deep"]) fun _ _ _ _ _ _ us hl => match us, hl with | [_, _], _ => rfl
  have F46 := fun_mk (st := s_law_wished) l46 c46 k46
  have b46 := F46.binds (ps := ["_law_tree"]) fun _ _ _ _ _ _ us hl => match us, hl with | [_], _ => rfl
  have F47 := fun_mk (st := s_law_met) l47 c47 k47
  have b47 := F47.binds (ps := ["_law_tree", "_law_book_here"]) fun _ _ _ _ _ _ us hl => match us, hl with | [_, _], _ => rfl
  have F48 := fun_mk (st := s_law_text) l48 c48 k48
  have b48 := F48.binds (ps := ["_law_tree"]) fun _ _ _ _ _ _ us hl => match us, hl with | [_], _ => rfl
  have F49 := fun_mk (st := s_law_refused) l49 c49 k49
  have b49 := F49.binds (ps := ["_law_door", "_law_numbers"]) fun _ _ _ _ _ _ us hl => match us, hl with | [_, _], _ => rfl
  have F50 := fun_mk (st := s_law_odd) l50 c50 k50
  have b50 := F50.binds (ps := []) fun _ _ _ _ _ _ us hl => match us, hl with | [], _ => rfl
  have F51 := fun_mk (st := s_law) l51 c51 k51
  have b51 := F51.binds (ps := ["_law_script"]) fun _ _ _ _ _ _ us hl => match us, hl with | [_], _ => rfl
  have FI_InvalidNumber := fun_mk (st := si_InvalidNumber) xl_InvalidNumber xc_InvalidNumber xki_InvalidNumber
  have BI_InvalidNumber := FI_InvalidNumber.binds (ps := ["self", "number"]) fun _ _ _ _ _ _ us hl => match us, hl with | [_, _], _ => rfl
  have FI_InvalidBook := fun_mk (st := si_InvalidBook) xl_InvalidBook xc_InvalidBook xki_InvalidBook
  have BI_InvalidBook := FI_InvalidBook.binds (ps := ["self", "part"]) fun _ _ _ _ _ _ us hl => match us, hl with | [_, _], _ => rfl
  have TT : Tx K mg { f_is_integer := f1, d_is_integer := _, f_check_integer := f2, d_check_integer := _, f_is_share := f3, d_is_share := _, f_part_of := f4, d_part_of := _, f_check_parts := f5, d_check_parts := _, f_Book___init__ := f6, d_Book___init__ := _, f_Book_first := f7, d_Book_first := _, f_Book_roof := f8, d_Book_roof := _, f_Book_step := f9, d_Book_step := _, f_Book_given := f10, d_Book_given := _, f_ramp := f11, d_ramp := _, f_givings := f12, d_givings := _, f_most_pieces := f13, d_most_pieces := _, f_most_idle := f14, d_most_idle := _, f_check_blocks := f15, d_check_blocks := _, f_whole_choices := f16, d_whole_choices := _, f_layers := f17, d_layers := _, f_growths_at := f18, d_growths_at := _, f_short_choices := f19, d_short_choices := _, f_fullest := f20, d_fullest := _, f_least_refused := f21, d_least_refused := _, f_never_refused := f22, d_never_refused := _, f_Wish___and__ := f23, d_Wish___and__ := _, f_Wish___or__ := f24, d_Wish___or__ := _, f_Wish___eq__ := f25, d_Wish___eq__ := _, f_FewPieces___init__ := f26, d_FewPieces___init__ := _, f_FewPieces___call__ := f27, d_FewPieces___call__ := _, f_FewPieces_shown := f28, d_FewPieces_shown := _, f_LittleIdle___init__ := f29, d_LittleIdle___init__ := _, f_LittleIdle___call__ := f30, d_LittleIdle___call__ := _, f_LittleIdle_shown := f31, d_LittleIdle_shown := _, f_NoRefusal___init__ := f32, d_NoRefusal___init__ := _, f_NoRefusal___call__ := f33, d_NoRefusal___call__ := _, f_NoRefusal_shown := f34, d_NoRefusal_shown := _, f_BothWishes___init__ := f35, d_BothWishes___init__ := _, f_BothWishes___call__ := f36, d_BothWishes___call__ := _, f_BothWishes_shown := f37, d_BothWishes_shown := _, f_EitherWish___init__ := f38, d_EitherWish___init__ := _, f_EitherWish___call__ := f39, d_EitherWish___call__ := _, f_EitherWish_shown := f40, d_EitherWish_shown := _, f_law_hand := f41, d_law_hand := _, f_law_draw := f42, d_law_draw := _, f_law_parts := f43, d_law_parts := _, f_law_book := f44, d_law_book := _, f_law_wish := f45, d_law_wish := _, f_law_wished := f46, d_law_wished := _, f_law_met := f47, d_law_met := _, f_law_text := f48, d_law_text := _, f_law_refused := f49, d_law_refused := _, f_law_odd := f50, d_law_odd := _, f_law := fa, d_law := _, c_InvalidNumber := c_InvalidNumber, c_GrowError := c_GrowError, c_InvalidBook := c_InvalidBook, c_Book := c_Book, c_BothWishes := c_BothWishes, c_Wish := c_Wish, c_EitherWish := c_EitherWish, c_FewPieces := c_FewPieces, c_LittleIdle := c_LittleIdle, c_NoRefusal := c_NoRefusal, c_InvalidChoice := c_InvalidChoice, i_InvalidNumber := i_InvalidNumber, e_InvalidNumber := _, i_InvalidBook := i_InvalidBook, e_InvalidBook := _, p_Book_first := pp7, p_Book_roof := pp8 } := { F_is_integer := F1, b_is_integer := b1, g_is_integer := PySem.W.mg_of X G a1, F_check_integer := F2, b_check_integer := b2, g_check_integer := PySem.W.mg_of X G a2, F_is_share := F3, b_is_share := b3, g_is_share := PySem.W.mg_of X G a3, F_part_of := F4, b_part_of := b4, g_part_of := PySem.W.mg_of X G a4, F_check_parts := F5, b_check_parts := b5, g_check_parts := PySem.W.mg_of X G a5, F_Book___init__ := F6, kb1_Book___init__ := kb1_6, me_Book___init__ := ⟨mi6, mf6, k6⟩, F_Book_first := F7, b_Book_first := b7, pr_Book_first := ⟨pa7, pg7, pt7, _, pc7⟩, F_Book_roof := F8, b_Book_roof := b8, pr_Book_roof := ⟨pa8, pg8, pt8, _, pc8⟩, F_Book_step := F9, b_Book_step := b9, me_Book_step := ⟨mi9, mf9, k9⟩, F_Book_given := F10, b_Book_given := b10, me_Book_given := ⟨mi10, mf10, k10⟩, F_ramp := F11, b_ramp := b11, g_ramp := PySem.W.mg_of X G a11, F_givings := F12, b_givings := b12, g_givings := PySem.W.mg_of X G a12, F_most_pieces := F13, kb0_most_pieces := kb0_13, g_most_pieces := PySem.W.mg_of X G a13, F_most_idle := F14, b_most_idle := b14, g_most_idle := PySem.W.mg_of X G a14, F_check_blocks := F15, b_check_blocks := b15, g_check_blocks := PySem.W.mg_of X G a15, F_whole_choices := F16, b_whole_choices := b16, g_whole_choices := PySem.W.mg_of X G a16, F_layers := F17, b_layers := b17, g_layers := PySem.W.mg_of X G a17, F_growths_at := F18, b_growths_at := b18, g_growths_at := PySem.W.mg_of X G a18, F_short_choices := F19, b_short_choices := b19, g_short_choices := PySem.W.mg_of X G a19, F_fullest := F20, b_fullest := b20, g_fullest := PySem.W.mg_of X G a20, F_least_refused := F21, b_least_refused := b21, g_least_refused := PySem.W.mg_of X G a21, F_never_refused := F22, b_never_refused := b22, g_never_refused := PySem.W.mg_of X G a22, F_Wish___and__ := F23, b_Wish___and__ := b23, me_Wish___and__ := ⟨mi23, mf23, k23⟩, F_Wish___or__ := F24, b_Wish___or__ := b24, me_Wish___or__ := ⟨mi24, mf24, k24⟩, F_Wish___eq__ := F25, b_Wish___eq__ := b25, me_Wish___eq__ := ⟨mi25, mf25, k25⟩, F_FewPieces___init__ := F26, b_FewPieces___init__ := b26, KB_FewPieces___init__ := kb26, me_FewPieces___init__ := ⟨mi26, mf26, k26⟩, F_FewPieces___call__ := F27, b_FewPieces___call__ := b27, me_FewPieces___call__ := ⟨mi27, mf27, k27⟩, fc_FewPieces___call__ := fc27, F_FewPieces_shown := F28, b_FewPieces_shown := b28, me_FewPieces_shown := ⟨mi28, mf28, k28⟩, fc_FewPieces_shown := fc28, F_LittleIdle___init__ := F29, b_LittleIdle___init__ := b29, KB_LittleIdle___init__ := kb29, me_LittleIdle___init__ := ⟨mi29, mf29, k29⟩, F_LittleIdle___call__ := F30, b_LittleIdle___call__ := b30, me_LittleIdle___call__ := ⟨mi30, mf30, k30⟩, fc_LittleIdle___call__ := fc30, F_LittleIdle_shown := F31, b_LittleIdle_shown := b31, me_LittleIdle_shown := ⟨mi31, mf31, k31⟩, fc_LittleIdle_shown := fc31, F_NoRefusal___init__ := F32, b_NoRefusal___init__ := b32, KB_NoRefusal___init__ := kb32, me_NoRefusal___init__ := ⟨mi32, mf32, k32⟩, F_NoRefusal___call__ := F33, b_NoRefusal___call__ := b33, me_NoRefusal___call__ := ⟨mi33, mf33, k33⟩, fc_NoRefusal___call__ := fc33, F_NoRefusal_shown := F34, b_NoRefusal_shown := b34, me_NoRefusal_shown := ⟨mi34, mf34, k34⟩, fc_NoRefusal_shown := fc34, F_BothWishes___init__ := F35, b_BothWishes___init__ := b35, KB_BothWishes___init__ := kb35, me_BothWishes___init__ := ⟨mi35, mf35, k35⟩, F_BothWishes___call__ := F36, b_BothWishes___call__ := b36, me_BothWishes___call__ := ⟨mi36, mf36, k36⟩, fc_BothWishes___call__ := fc36, F_BothWishes_shown := F37, b_BothWishes_shown := b37, me_BothWishes_shown := ⟨mi37, mf37, k37⟩, fc_BothWishes_shown := fc37, F_EitherWish___init__ := F38, b_EitherWish___init__ := b38, KB_EitherWish___init__ := kb38, me_EitherWish___init__ := ⟨mi38, mf38, k38⟩, F_EitherWish___call__ := F39, b_EitherWish___call__ := b39, me_EitherWish___call__ := ⟨mi39, mf39, k39⟩, fc_EitherWish___call__ := fc39, F_EitherWish_shown := F40, b_EitherWish_shown := b40, me_EitherWish_shown := ⟨mi40, mf40, k40⟩, fc_EitherWish_shown := fc40, F_law_hand := F41, b_law_hand := b41, g_law_hand := PySem.W.mg_of X G a41, F_law_draw := F42, b_law_draw := b42, g_law_draw := PySem.W.mg_of X G a42, F_law_parts := F43, b_law_parts := b43, g_law_parts := PySem.W.mg_of X G a43, F_law_book := F44, b_law_book := b44, g_law_book := PySem.W.mg_of X G a44, F_law_wish := F45, b_law_wish := b45, g_law_wish := PySem.W.mg_of X G a45, F_law_wished := F46, b_law_wished := b46, g_law_wished := PySem.W.mg_of X G a46, F_law_met := F47, b_law_met := b47, g_law_met := PySem.W.mg_of X G a47, F_law_text := F48, b_law_text := b48, g_law_text := PySem.W.mg_of X G a48, F_law_refused := F49, b_law_refused := b49, g_law_refused := PySem.W.mg_of X G a49, F_law_odd := F50, b_law_odd := b50, g_law_odd := PySem.W.mg_of X G a50, F_law := F51, b_law := b51, g_law := PySem.W.mg_of X G a51, z_bool := PySem.W.mg_none_of X G z_bool, z_enumerate := PySem.W.mg_none_of X G z_enumerate, z_int := PySem.W.mg_none_of X G z_int, z_isinstance := PySem.W.mg_none_of X G z_isinstance, z_len := PySem.W.mg_none_of X G z_len, z_max := PySem.W.mg_none_of X G z_max, z_min := PySem.W.mg_none_of X G z_min, z_range := PySem.W.mg_none_of X G z_range, z_repr := PySem.W.mg_none_of X G z_repr, z_str := PySem.W.mg_none_of X G z_str, z_tuple := PySem.W.mg_none_of X G z_tuple, c_MOST := ⟨_, PySem.W.mg_of X G c_MOST⟩, c_MOST_BLOCKS := ⟨_, PySem.W.mg_of X G c_MOST_BLOCKS⟩, c_MOST_FILES := ⟨_, PySem.W.mg_of X G c_MOST_FILES⟩, c_MOST_GROWTH_checks := ⟨_, PySem.W.mg_of X G c_MOST_GROWTH_checks⟩, c_MOST_GROWTH_numbers := ⟨_, PySem.W.mg_of X G c_MOST_GROWTH_numbers⟩, c_MOST_NUMBER := ⟨_, PySem.W.mg_of X G c_MOST_NUMBER⟩, c_MOST_SHARE := ⟨_, PySem.W.mg_of X G c_MOST_SHARE⟩, g_InvalidNumber := PySem.W.mg_of X G ga_InvalidNumber, g_GrowError := PySem.W.mg_of X G ga_GrowError, g_InvalidBook := PySem.W.mg_of X G ga_InvalidBook, g_Book := PySem.W.mg_of X G ga_Book, g_BothWishes := PySem.W.mg_of X G ga_BothWishes, g_Wish := PySem.W.mg_of X G ga_Wish, g_EitherWish := PySem.W.mg_of X G ga_EitherWish, g_FewPieces := PySem.W.mg_of X G ga_FewPieces, g_LittleIdle := PySem.W.mg_of X G ga_LittleIdle, g_NoRefusal := PySem.W.mg_of X G ga_NoRefusal, g_InvalidChoice := PySem.W.mg_of X G ga_InvalidChoice, cl_Book := ⟨wpg_Book, whd_Book, wpo_Book, wsa_Book⟩, mk_Book := ⟨wmk_Book, mi6, mf6, wkp_Book⟩, cl_BothWishes := ⟨wpg_BothWishes, whd_BothWishes, wpo_BothWishes, wsa_BothWishes⟩, mk_BothWishes := ⟨wmk_BothWishes, mi35, mf35, wkp_BothWishes⟩, cl_Wish := ⟨wpg_Wish, whd_Wish, wpo_Wish, wsa_Wish⟩, cl_EitherWish := ⟨wpg_EitherWish, whd_EitherWish, wpo_EitherWish, wsa_EitherWish⟩, mk_EitherWish := ⟨wmk_EitherWish, mi38, mf38, wkp_EitherWish⟩, cl_FewPieces := ⟨wpg_FewPieces, whd_FewPieces, wpo_FewPieces, wsa_FewPieces⟩, mk_FewPieces := ⟨wmk_FewPieces, mi26, mf26, wkp_FewPieces⟩, cl_LittleIdle := ⟨wpg_LittleIdle, whd_LittleIdle, wpo_LittleIdle, wsa_LittleIdle⟩, mk_LittleIdle := ⟨wmk_LittleIdle, mi29, mf29, wkp_LittleIdle⟩, cl_NoRefusal := ⟨wpg_NoRefusal, whd_NoRefusal, wpo_NoRefusal, wsa_NoRefusal⟩, mk_NoRefusal := ⟨wmk_NoRefusal, mi32, mf32, wkp_NoRefusal⟩, ty_Book := fun H a dx fs e => .base (.ins e ⟨wpg_Book, whd_Book, wpo_Book, wsa_Book⟩ wcl_Book wsp_Book wtk_Book wmr_Book), sf_BothWishes := wsf_BothWishes, ty_BothWishes := fun H a dx fs e => .base (.ins e ⟨wpg_BothWishes, whd_BothWishes, wpo_BothWishes, wsa_BothWishes⟩ wcl_BothWishes wsp_BothWishes wtk_BothWishes wmr_BothWishes), sf_Wish := wsf_Wish, ty_Wish := fun H a dx fs e => .base (.ins e ⟨wpg_Wish, whd_Wish, wpo_Wish, wsa_Wish⟩ wcl_Wish wsp_Wish wtk_Wish wmr_Wish), sf_EitherWish := wsf_EitherWish, ty_EitherWish := fun H a dx fs e => .base (.ins e ⟨wpg_EitherWish, whd_EitherWish, wpo_EitherWish, wsa_EitherWish⟩ wcl_EitherWish wsp_EitherWish wtk_EitherWish wmr_EitherWish), sf_FewPieces := wsf_FewPieces, ty_FewPieces := fun H a dx fs e => .base (.ins e ⟨wpg_FewPieces, whd_FewPieces, wpo_FewPieces, wsa_FewPieces⟩ wcl_FewPieces wsp_FewPieces wtk_FewPieces wmr_FewPieces), sf_LittleIdle := wsf_LittleIdle, ty_LittleIdle := fun H a dx fs e => .base (.ins e ⟨wpg_LittleIdle, whd_LittleIdle, wpo_LittleIdle, wsa_LittleIdle⟩ wcl_LittleIdle wsp_LittleIdle wtk_LittleIdle wmr_LittleIdle), sf_NoRefusal := wsf_NoRefusal, ty_NoRefusal := fun H a dx fs e => .base (.ins e ⟨wpg_NoRefusal, whd_NoRefusal, wpo_NoRefusal, wsa_NoRefusal⟩ wcl_NoRefusal wsp_NoRefusal wtk_NoRefusal wmr_NoRefusal), kn_Wish := fun k => match k with | .non => wk_non_Wish | .bl => wk_bl_Wish | .int => wk_int_Wish | .str => wk_str_Wish | .tup => wk_tup_Wish | .lst => wk_lst_Wish, ki_Book_Wish := wi_Book_Wish, ki_BothWishes_Wish := wi_BothWishes_Wish, ki_Wish_Wish := wi_Wish_Wish, ki_EitherWish_Wish := wi_EitherWish_Wish, ki_FewPieces_Wish := wi_FewPieces_Wish, ki_LittleIdle_Wish := wi_LittleIdle_Wish, ki_NoRefusal_Wish := wi_NoRefusal_Wish, fm_Wish___and__ := ⟨⟨(List.forall_mem_cons.mpr ⟨⟨wfm_FewPieces_Wish___and__, mf23, k23⟩, List.forall_mem_cons.mpr ⟨⟨wfm_LittleIdle_Wish___and__, mf23, k23⟩, List.forall_mem_cons.mpr ⟨⟨wfm_NoRefusal_Wish___and__, mf23, k23⟩, List.forall_mem_cons.mpr ⟨⟨wfm_BothWishes_Wish___and__, mf23, k23⟩, List.forall_mem_cons.mpr ⟨⟨wfm_EitherWish_Wish___and__, mf23, k23⟩, fun _ h => nomatch h⟩⟩⟩⟩⟩), (List.forall_mem_cons.mpr ⟨(List.forall_mem_cons.mpr ⟨wnf_FewPieces_FewPieces, List.forall_mem_cons.mpr ⟨wnf_FewPieces_LittleIdle, List.forall_mem_cons.mpr ⟨wnf_FewPieces_NoRefusal, List.forall_mem_cons.mpr ⟨wnf_FewPieces_BothWishes, List.forall_mem_cons.mpr ⟨wnf_FewPieces_EitherWish, fun _ h => nomatch h⟩⟩⟩⟩⟩), List.forall_mem_cons.mpr ⟨(List.forall_mem_cons.mpr ⟨wnf_LittleIdle_FewPieces, List.forall_mem_cons.mpr ⟨wnf_LittleIdle_LittleIdle, List.forall_mem_cons.mpr ⟨wnf_LittleIdle_NoRefusal, List.forall_mem_cons.mpr ⟨wnf_LittleIdle_BothWishes, List.forall_mem_cons.mpr ⟨wnf_LittleIdle_EitherWish, fun _ h => nomatch h⟩⟩⟩⟩⟩), List.forall_mem_cons.mpr ⟨(List.forall_mem_cons.mpr ⟨wnf_NoRefusal_FewPieces, List.forall_mem_cons.mpr ⟨wnf_NoRefusal_LittleIdle, List.forall_mem_cons.mpr ⟨wnf_NoRefusal_NoRefusal, List.forall_mem_cons.mpr ⟨wnf_NoRefusal_BothWishes, List.forall_mem_cons.mpr ⟨wnf_NoRefusal_EitherWish, fun _ h => nomatch h⟩⟩⟩⟩⟩), List.forall_mem_cons.mpr ⟨(List.forall_mem_cons.mpr ⟨wnf_BothWishes_FewPieces, List.forall_mem_cons.mpr ⟨wnf_BothWishes_LittleIdle, List.forall_mem_cons.mpr ⟨wnf_BothWishes_NoRefusal, List.forall_mem_cons.mpr ⟨wnf_BothWishes_BothWishes, List.forall_mem_cons.mpr ⟨wnf_BothWishes_EitherWish, fun _ h => nomatch h⟩⟩⟩⟩⟩), List.forall_mem_cons.mpr ⟨(List.forall_mem_cons.mpr ⟨wnf_EitherWish_FewPieces, List.forall_mem_cons.mpr ⟨wnf_EitherWish_LittleIdle, List.forall_mem_cons.mpr ⟨wnf_EitherWish_NoRefusal, List.forall_mem_cons.mpr ⟨wnf_EitherWish_BothWishes, List.forall_mem_cons.mpr ⟨wnf_EitherWish_EitherWish, fun _ h => nomatch h⟩⟩⟩⟩⟩), fun _ h => nomatch h⟩⟩⟩⟩⟩)⟩, (List.forall_mem_cons.mpr ⟨wsf_FewPieces, List.forall_mem_cons.mpr ⟨wsf_LittleIdle, List.forall_mem_cons.mpr ⟨wsf_NoRefusal, List.forall_mem_cons.mpr ⟨wsf_BothWishes, List.forall_mem_cons.mpr ⟨wsf_EitherWish, fun _ h => nomatch h⟩⟩⟩⟩⟩), (List.forall_mem_cons.mpr ⟨wnr_FewPieces_Wish___and__, List.forall_mem_cons.mpr ⟨wnr_LittleIdle_Wish___and__, List.forall_mem_cons.mpr ⟨wnr_NoRefusal_Wish___and__, List.forall_mem_cons.mpr ⟨wnr_BothWishes_Wish___and__, List.forall_mem_cons.mpr ⟨wnr_EitherWish_Wish___and__, fun _ h => nomatch h⟩⟩⟩⟩⟩)⟩, fm_Wish___or__ := ⟨⟨(List.forall_mem_cons.mpr ⟨⟨wfm_FewPieces_Wish___or__, mf24, k24⟩, List.forall_mem_cons.mpr ⟨⟨wfm_LittleIdle_Wish___or__, mf24, k24⟩, List.forall_mem_cons.mpr ⟨⟨wfm_NoRefusal_Wish___or__, mf24, k24⟩, List.forall_mem_cons.mpr ⟨⟨wfm_BothWishes_Wish___or__, mf24, k24⟩, List.forall_mem_cons.mpr ⟨⟨wfm_EitherWish_Wish___or__, mf24, k24⟩, fun _ h => nomatch h⟩⟩⟩⟩⟩), (List.forall_mem_cons.mpr ⟨(List.forall_mem_cons.mpr ⟨wnf_FewPieces_FewPieces, List.forall_mem_cons.mpr ⟨wnf_FewPieces_LittleIdle, List.forall_mem_cons.mpr ⟨wnf_FewPieces_NoRefusal, List.forall_mem_cons.mpr ⟨wnf_FewPieces_BothWishes, List.forall_mem_cons.mpr ⟨wnf_FewPieces_EitherWish, fun _ h => nomatch h⟩⟩⟩⟩⟩), List.forall_mem_cons.mpr ⟨(List.forall_mem_cons.mpr ⟨wnf_LittleIdle_FewPieces, List.forall_mem_cons.mpr ⟨wnf_LittleIdle_LittleIdle, List.forall_mem_cons.mpr ⟨wnf_LittleIdle_NoRefusal, List.forall_mem_cons.mpr ⟨wnf_LittleIdle_BothWishes, List.forall_mem_cons.mpr ⟨wnf_LittleIdle_EitherWish, fun _ h => nomatch h⟩⟩⟩⟩⟩), List.forall_mem_cons.mpr ⟨(List.forall_mem_cons.mpr ⟨wnf_NoRefusal_FewPieces, List.forall_mem_cons.mpr ⟨wnf_NoRefusal_LittleIdle, List.forall_mem_cons.mpr ⟨wnf_NoRefusal_NoRefusal, List.forall_mem_cons.mpr ⟨wnf_NoRefusal_BothWishes, List.forall_mem_cons.mpr ⟨wnf_NoRefusal_EitherWish, fun _ h => nomatch h⟩⟩⟩⟩⟩), List.forall_mem_cons.mpr ⟨(List.forall_mem_cons.mpr ⟨wnf_BothWishes_FewPieces, List.forall_mem_cons.mpr ⟨wnf_BothWishes_LittleIdle, List.forall_mem_cons.mpr ⟨wnf_BothWishes_NoRefusal, List.forall_mem_cons.mpr ⟨wnf_BothWishes_BothWishes, List.forall_mem_cons.mpr ⟨wnf_BothWishes_EitherWish, fun _ h => nomatch h⟩⟩⟩⟩⟩), List.forall_mem_cons.mpr ⟨(List.forall_mem_cons.mpr ⟨wnf_EitherWish_FewPieces, List.forall_mem_cons.mpr ⟨wnf_EitherWish_LittleIdle, List.forall_mem_cons.mpr ⟨wnf_EitherWish_NoRefusal, List.forall_mem_cons.mpr ⟨wnf_EitherWish_BothWishes, List.forall_mem_cons.mpr ⟨wnf_EitherWish_EitherWish, fun _ h => nomatch h⟩⟩⟩⟩⟩), fun _ h => nomatch h⟩⟩⟩⟩⟩)⟩, (List.forall_mem_cons.mpr ⟨wsf_FewPieces, List.forall_mem_cons.mpr ⟨wsf_LittleIdle, List.forall_mem_cons.mpr ⟨wsf_NoRefusal, List.forall_mem_cons.mpr ⟨wsf_BothWishes, List.forall_mem_cons.mpr ⟨wsf_EitherWish, fun _ h => nomatch h⟩⟩⟩⟩⟩), (List.forall_mem_cons.mpr ⟨wnr_FewPieces_Wish___or__, List.forall_mem_cons.mpr ⟨wnr_LittleIdle_Wish___or__, List.forall_mem_cons.mpr ⟨wnr_NoRefusal_Wish___or__, List.forall_mem_cons.mpr ⟨wnr_BothWishes_Wish___or__, List.forall_mem_cons.mpr ⟨wnr_EitherWish_Wish___or__, fun _ h => nomatch h⟩⟩⟩⟩⟩)⟩, fm_Wish___eq__ := ⟨(List.forall_mem_cons.mpr ⟨⟨wfm_FewPieces_Wish___eq__, mf25, k25⟩, List.forall_mem_cons.mpr ⟨⟨wfm_LittleIdle_Wish___eq__, mf25, k25⟩, List.forall_mem_cons.mpr ⟨⟨wfm_NoRefusal_Wish___eq__, mf25, k25⟩, List.forall_mem_cons.mpr ⟨⟨wfm_BothWishes_Wish___eq__, mf25, k25⟩, List.forall_mem_cons.mpr ⟨⟨wfm_EitherWish_Wish___eq__, mf25, k25⟩, fun _ h => nomatch h⟩⟩⟩⟩⟩), (List.forall_mem_cons.mpr ⟨(List.forall_mem_cons.mpr ⟨wnf_FewPieces_FewPieces, List.forall_mem_cons.mpr ⟨wnf_FewPieces_LittleIdle, List.forall_mem_cons.mpr ⟨wnf_FewPieces_NoRefusal, List.forall_mem_cons.mpr ⟨wnf_FewPieces_BothWishes, List.forall_mem_cons.mpr ⟨wnf_FewPieces_EitherWish, fun _ h => nomatch h⟩⟩⟩⟩⟩), List.forall_mem_cons.mpr ⟨(List.forall_mem_cons.mpr ⟨wnf_LittleIdle_FewPieces, List.forall_mem_cons.mpr ⟨wnf_LittleIdle_LittleIdle, List.forall_mem_cons.mpr ⟨wnf_LittleIdle_NoRefusal, List.forall_mem_cons.mpr ⟨wnf_LittleIdle_BothWishes, List.forall_mem_cons.mpr ⟨wnf_LittleIdle_EitherWish, fun _ h => nomatch h⟩⟩⟩⟩⟩), List.forall_mem_cons.mpr ⟨(List.forall_mem_cons.mpr ⟨wnf_NoRefusal_FewPieces, List.forall_mem_cons.mpr ⟨wnf_NoRefusal_LittleIdle, List.forall_mem_cons.mpr ⟨wnf_NoRefusal_NoRefusal, List.forall_mem_cons.mpr ⟨wnf_NoRefusal_BothWishes, List.forall_mem_cons.mpr ⟨wnf_NoRefusal_EitherWish, fun _ h => nomatch h⟩⟩⟩⟩⟩), List.forall_mem_cons.mpr ⟨(List.forall_mem_cons.mpr ⟨wnf_BothWishes_FewPieces, List.forall_mem_cons.mpr ⟨wnf_BothWishes_LittleIdle, List.forall_mem_cons.mpr ⟨wnf_BothWishes_NoRefusal, List.forall_mem_cons.mpr ⟨wnf_BothWishes_BothWishes, List.forall_mem_cons.mpr ⟨wnf_BothWishes_EitherWish, fun _ h => nomatch h⟩⟩⟩⟩⟩), List.forall_mem_cons.mpr ⟨(List.forall_mem_cons.mpr ⟨wnf_EitherWish_FewPieces, List.forall_mem_cons.mpr ⟨wnf_EitherWish_LittleIdle, List.forall_mem_cons.mpr ⟨wnf_EitherWish_NoRefusal, List.forall_mem_cons.mpr ⟨wnf_EitherWish_BothWishes, List.forall_mem_cons.mpr ⟨wnf_EitherWish_EitherWish, fun _ h => nomatch h⟩⟩⟩⟩⟩), fun _ h => nomatch h⟩⟩⟩⟩⟩)⟩, na_Book_own_share := wn_Book_own_share, na_Book_own_roof := wn_Book_own_roof, na_Book_own_first := wn_Book_own_first, na_FewPieces_most := wn_FewPieces_most, na_FewPieces_size := wn_FewPieces_size, na_LittleIdle_most := wn_LittleIdle_most, na_LittleIdle_size := wn_LittleIdle_size, na_NoRefusal_at_least := wn_NoRefusal_at_least, na_NoRefusal_files := wn_NoRefusal_files, na_NoRefusal_blocks := wn_NoRefusal_blocks, na_BothWishes_other := wn_BothWishes_other, na_BothWishes_one := wn_BothWishes_one, na_EitherWish_other := wn_EitherWish_other, na_EitherWish_one := wn_EitherWish_one, o_InvalidNumber := ⟨⟨_, _, _, _, _, _, _, _, _, _, _, _, _, _, _, xL_InvalidNumber, rfl⟩, xsa_InvalidNumber, xe_InvalidNumber, xty_InvalidNumber, xk_InvalidNumber⟩, i_InvalidNumber := xi_InvalidNumber, t_InvalidNumber := xt_InvalidNumber, n_InvalidNumber := xnf_InvalidNumber, FI_InvalidNumber := FI_InvalidNumber, BI_InvalidNumber := BI_InvalidNumber, x_InvalidNumber := ⟨xga_InvalidNumber, xgg_InvalidNumber, xe_InvalidNumber, xh_InvalidNumber⟩, q_InvalidNumber := ⟨xga_InvalidNumber, xgg_InvalidNumber, xe_InvalidNumber, xh_InvalidNumber, xcl_InvalidNumber, xsp_InvalidNumber, xtk_InvalidNumber, xm_InvalidNumber⟩, o_InvalidBook := ⟨⟨_, _, _, _, _, _, _, _, _, _, _, _, _, _, _, xL_InvalidBook, rfl⟩, xsa_InvalidBook, xe_InvalidBook, xty_InvalidBook, xk_InvalidBook⟩, i_InvalidBook := xi_InvalidBook, t_InvalidBook := xt_InvalidBook, n_InvalidBook := xnf_InvalidBook, FI_InvalidBook := FI_InvalidBook, BI_InvalidBook := BI_InvalidBook, x_InvalidBook := ⟨xga_InvalidBook, xgg_InvalidBook, xe_InvalidBook, xh_InvalidBook⟩, q_InvalidBook := ⟨xga_InvalidBook, xgg_InvalidBook, xe_InvalidBook, xh_InvalidBook, xcl_InvalidBook, xsp_InvalidBook, xtk_InvalidBook, xm_InvalidBook⟩, m_InvalidNumber_GrowError := PySem.W.exm_ref ye_GrowError yh_GrowError yt_GrowError ys_InvalidNumber_GrowError, m_InvalidBook_GrowError := PySem.W.exm_ref ye_GrowError yh_GrowError yt_GrowError ys_InvalidBook_GrowError, k_InvalidNumber_InvalidNumber := yk_InvalidNumber_InvalidNumber, k_InvalidBook_InvalidNumber := yk_InvalidBook_InvalidNumber, k_InvalidNumber_InvalidChoice := yk_InvalidNumber_InvalidChoice, k_InvalidBook_InvalidChoice := yk_InvalidBook_InvalidChoice }
  exact ⟨_, fun s v => .of_eq rfl, fun base _ _ => (ok_law TT).gen⟩
end TL
open PySem PySem.W PyProof.Rows
set_option maxHeartbeats 0 in
theorem PySem.Challenge.cw_grownfiles_k78_wishes_holds : PySem.Challenge.rw_grownfiles_k78_wishes.Holds := by
  w_on; o_law; k_head; (case hw => w_witness2)
  k_fill
  refine L2.walk_of (l := PySem.Challenge.rw_grownfiles_k78_wishes) (n := 63) (k := 14) (x := "_law_script") (CX := fun w => L2.CX PySem.Challenge.rw_grownfiles_k78_wishes.prog w) (sp := fun w => TL.liftSp _ 1 TL.C_law) rfl (by decide) rfl ⟨rfl, by decide, by decide⟩ (fun w h Y => by first | exact PySem.W.kIn_of Y | exact PySem.W.km_in_of Y) ?F (fun _ H a ns hl hO hS => TL.law_start hS ⟨ns, rfl, hl, fun _ => rfl⟩) (fun _ H s e s' => TL.no_law)
  case F =>
    intro w mg fa h KX G hmg
    refine' TL.all_mk KX G hmg ?a1 ?l1 ?c1 ?k1 ?a2 ?l2 ?c2 ?k2 ?a3 ?l3 ?c3 ?k3 ?a4 ?l4 ?c4 ?k4 ?a5 ?l5 ?c5 ?k5 ?a11 ?l11 ?c11 ?k11 ?a12 ?l12 ?c12 ?k12 ?a13 ?l13 ?c13 ?k13 ?kw13_back ?a14 ?l14 ?c14 ?k14 ?a15 ?l15 ?c15 ?k15 ?a16 ?l16 ?c16 ?k16 ?a17 ?l17 ?c17 ?k17 ?a18 ?l18 ?c18 ?k18 ?a19 ?l19 ?c19 ?k19 ?a20 ?l20 ?c20 ?k20 ?a21 ?l21 ?c21 ?k21 ?a22 ?l22 ?c22 ?k22 ?a41 ?l41 ?c41 ?k41 ?a42 ?l42 ?c42 ?k42 ?a43 ?l43 ?c43 ?k43 ?a44 ?l44 ?c44 ?k44 ?a45 ?l45 ?c45 ?k45 ?a46 ?l46 ?c46 ?k46 ?a47 ?l47 ?c47 ?k47 ?a48 ?l48 ?c48 ?k48 ?a49 ?l49 ?c49 ?k49 ?a50 ?l50 ?c50 ?k50 ?a51 ?l51 ?c51 ?k51 ?z_bool ?z_enumerate ?z_int ?z_isinstance ?z_len ?z_max ?z_min ?z_range ?z_repr ?z_str ?z_tuple ?c_MOST ?c_MOST_BLOCKS ?c_MOST_FILES ?c_MOST_GROWTH_checks ?c_MOST_GROWTH_numbers ?c_MOST_NUMBER ?c_MOST_SHARE ?ga_InvalidNumber ?ga_GrowError ?ga_InvalidBook ?ga_Book ?ga_BothWishes ?ga_Wish ?ga_EitherWish ?ga_FewPieces ?ga_LittleIdle ?ga_NoRefusal ?ga_InvalidChoice ?mi6 ?mf6 ?l6 ?c6 ?k6 ?kw6_share ?pa7 ?pg7 ?pt7 ?pc7 ?l7 ?c7 ?k7 ?pa8 ?pg8 ?pt8 ?pc8 ?l8 ?c8 ?k8 ?mi9 ?mf9 ?l9 ?c9 ?k9 ?mi10 ?mf10 ?l10 ?c10 ?k10 ?mi23 ?mf23 ?l23 ?c23 ?k23 ?mi24 ?mf24 ?l24 ?c24 ?k24 ?mi25 ?mf25 ?l25 ?c25 ?k25 ?mi26 ?mf26 ?l26 ?c26 ?k26 ?mi27 ?mf27 ?l27 ?c27 ?k27 ?fc27 ?mi28 ?mf28 ?l28 ?c28 ?k28 ?fc28 ?mi29 ?mf29 ?l29 ?c29 ?k29 ?mi30 ?mf30 ?l30 ?c30 ?k30 ?fc30 ?mi31 ?mf31 ?l31 ?c31 ?k31 ?fc31 ?mi32 ?mf32 ?l32 ?c32 ?k32 ?mi33 ?mf33 ?l33 ?c33 ?k33 ?fc33 ?mi34 ?mf34 ?l34 ?c34 ?k34 ?fc34 ?mi35 ?mf35 ?l35 ?c35 ?k35 ?mi36 ?mf36 ?l36 ?c36 ?k36 ?fc36 ?mi37 ?mf37 ?l37 ?c37 ?k37 ?fc37 ?mi38 ?mf38 ?l38 ?c38 ?k38 ?mi39 ?mf39 ?l39 ?c39 ?k39 ?fc39 ?mi40 ?mf40 ?l40 ?c40 ?k40 ?fc40 ?wpg_Book ?whd_Book ?wpo_Book ?wsa_Book ?wmk_Book ?wkp_Book ?wpg_BothWishes ?whd_BothWishes ?wpo_BothWishes ?wsa_BothWishes ?wmk_BothWishes ?wkp_BothWishes ?wpg_Wish ?whd_Wish ?wpo_Wish ?wsa_Wish ?wpg_EitherWish ?whd_EitherWish ?wpo_EitherWish ?wsa_EitherWish ?wmk_EitherWish ?wkp_EitherWish ?wpg_FewPieces ?whd_FewPieces ?wpo_FewPieces ?wsa_FewPieces ?wmk_FewPieces ?wkp_FewPieces ?wpg_LittleIdle ?whd_LittleIdle ?wpo_LittleIdle ?wsa_LittleIdle ?wmk_LittleIdle ?wkp_LittleIdle ?wpg_NoRefusal ?whd_NoRefusal ?wpo_NoRefusal ?wsa_NoRefusal ?wmk_NoRefusal ?wkp_NoRefusal ?wcl_Book ?wsp_Book ?wtk_Book ?wmr_Book ?wsf_BothWishes ?wcl_BothWishes ?wsp_BothWishes ?wtk_BothWishes ?wmr_BothWishes ?wsf_Wish ?wcl_Wish ?wsp_Wish ?wtk_Wish ?wmr_Wish ?wsf_EitherWish ?wcl_EitherWish ?wsp_EitherWish ?wtk_EitherWish ?wmr_EitherWish ?wsf_FewPieces ?wcl_FewPieces ?wsp_FewPieces ?wtk_FewPieces ?wmr_FewPieces ?wsf_LittleIdle ?wcl_LittleIdle ?wsp_LittleIdle ?wtk_LittleIdle ?wmr_LittleIdle ?wsf_NoRefusal ?wcl_NoRefusal ?wsp_NoRefusal ?wtk_NoRefusal ?wmr_NoRefusal ?wk_non_Wish ?wk_bl_Wish ?wk_int_Wish ?wk_str_Wish ?wk_tup_Wish ?wk_lst_Wish ?wi_Book_Wish ?wi_BothWishes_Wish ?wi_Wish_Wish ?wi_EitherWish_Wish ?wi_FewPieces_Wish ?wi_LittleIdle_Wish ?wi_NoRefusal_Wish ?wnf_FewPieces_FewPieces ?wnf_FewPieces_LittleIdle ?wnf_FewPieces_NoRefusal ?wnf_FewPieces_BothWishes ?wnf_FewPieces_EitherWish ?wnf_LittleIdle_FewPieces ?wnf_LittleIdle_LittleIdle ?wnf_LittleIdle_NoRefusal ?wnf_LittleIdle_BothWishes ?wnf_LittleIdle_EitherWish ?wnf_NoRefusal_FewPieces ?wnf_NoRefusal_LittleIdle ?wnf_NoRefusal_NoRefusal ?wnf_NoRefusal_BothWishes ?wnf_NoRefusal_EitherWish ?wnf_BothWishes_FewPieces ?wnf_BothWishes_LittleIdle ?wnf_BothWishes_NoRefusal ?wnf_BothWishes_BothWishes ?wnf_BothWishes_EitherWish ?wnf_EitherWish_FewPieces ?wnf_EitherWish_LittleIdle ?wnf_EitherWish_NoRefusal ?wnf_EitherWish_BothWishes ?wnf_EitherWish_EitherWish ?wfm_FewPieces_Wish___and__ ?wnr_FewPieces_Wish___and__ ?wfm_LittleIdle_Wish___and__ ?wnr_LittleIdle_Wish___and__ ?wfm_NoRefusal_Wish___and__ ?wnr_NoRefusal_Wish___and__ ?wfm_BothWishes_Wish___and__ ?wnr_BothWishes_Wish___and__ ?wfm_EitherWish_Wish___and__ ?wnr_EitherWish_Wish___and__ ?wfm_FewPieces_Wish___or__ ?wnr_FewPieces_Wish___or__ ?wfm_LittleIdle_Wish___or__ ?wnr_LittleIdle_Wish___or__ ?wfm_NoRefusal_Wish___or__ ?wnr_NoRefusal_Wish___or__ ?wfm_BothWishes_Wish___or__ ?wnr_BothWishes_Wish___or__ ?wfm_EitherWish_Wish___or__ ?wnr_EitherWish_Wish___or__ ?wfm_FewPieces_Wish___eq__ ?wfm_LittleIdle_Wish___eq__ ?wfm_NoRefusal_Wish___eq__ ?wfm_BothWishes_Wish___eq__ ?wfm_EitherWish_Wish___eq__ ?wn_Book_own_share ?wn_Book_own_roof ?wn_Book_own_first ?wn_FewPieces_most ?wn_FewPieces_size ?wn_LittleIdle_most ?wn_LittleIdle_size ?wn_NoRefusal_at_least ?wn_NoRefusal_files ?wn_NoRefusal_blocks ?wn_BothWishes_other ?wn_BothWishes_one ?wn_EitherWish_other ?wn_EitherWish_one ?xL_InvalidNumber ?xsa_InvalidNumber ?xga_InvalidNumber ?xgg_InvalidNumber ?xnf_InvalidNumber ?xi_InvalidNumber ?xt_InvalidNumber ?xl_InvalidNumber ?xc_InvalidNumber ?xki_InvalidNumber ?xk_InvalidNumber ?xe_InvalidNumber ?xty_InvalidNumber ?xh_InvalidNumber ?xcl_InvalidNumber ?xsp_InvalidNumber ?xtk_InvalidNumber ?xm_InvalidNumber ?xL_InvalidBook ?xsa_InvalidBook ?xga_InvalidBook ?xgg_InvalidBook ?xnf_InvalidBook ?xi_InvalidBook ?xt_InvalidBook ?xl_InvalidBook ?xc_InvalidBook ?xki_InvalidBook ?xk_InvalidBook ?xe_InvalidBook ?xty_InvalidBook ?xh_InvalidBook ?xcl_InvalidBook ?xsp_InvalidBook ?xtk_InvalidBook ?xm_InvalidBook ?ye_GrowError ?yh_GrowError ?yt_GrowError ?ys_InvalidNumber_GrowError ?ys_InvalidBook_GrowError ?yk_InvalidNumber_InvalidNumber ?yk_InvalidBook_InvalidNumber ?yk_InvalidNumber_InvalidChoice ?yk_InvalidBook_InvalidChoice
    (case a1 => k_is)
    (case l1 => k_is)
    (case c1 => k_is)
    (case k1 => k_is)
    (case a2 => k_is)
    (case l2 => k_is)
    (case c2 => k_is)
    (case k2 => k_is)
    (case a3 => k_is)
    (case l3 => k_is)
    (case c3 => k_is)
    (case k3 => k_is)
    (case a4 => k_is)
    (case l4 => k_is)
    (case c4 => k_is)
    (case k4 => k_is)
    (case a5 => k_is)
    (case l5 => k_is)
    (case c5 => k_is)
    (case k5 => k_is)
    (case a11 => k_is)
    (case l11 => k_is)
    (case c11 => k_is)
    (case k11 => k_is)
    (case a12 => k_is)
    (case l12 => k_is)
    (case c12 => k_is)
    (case k12 => k_is)
    (case a13 => k_is)
    (case l13 => k_is)
    (case c13 => k_is)
    (case k13 => k_is)
    (case kw13_back => k_is)
    (case a14 => k_is)
    (case l14 => k_is)
    (case c14 => k_is)
    (case k14 => k_is)
    (case a15 => k_is)
    (case l15 => k_is)
    (case c15 => k_is)
    (case k15 => k_is)
    (case a16 => k_is)
    (case l16 => k_is)
    (case c16 => k_is)
    (case k16 => k_is)
    (case a17 => k_is)
    (case l17 => k_is)
    (case c17 => k_is)
    (case k17 => k_is)
    (case a18 => k_is)
    (case l18 => k_is)
    (case c18 => k_is)
    (case k18 => k_is)
    (case a19 => k_is)
    (case l19 => k_is)
    (case c19 => k_is)
    (case k19 => k_is)
    (case a20 => k_is)
    (case l20 => k_is)
    (case c20 => k_is)
    (case k20 => k_is)
    (case a21 => k_is)
    (case l21 => k_is)
    (case c21 => k_is)
    (case k21 => k_is)
    (case a22 => k_is)
    (case l22 => k_is)
    (case c22 => k_is)
    (case k22 => k_is)
    (case a41 => k_is)
    (case l41 => k_is)
    (case c41 => k_is)
    (case k41 => k_is)
    (case a42 => k_is)
    (case l42 => k_is)
    (case c42 => k_is)
    (case k42 => k_is)
    (case a43 => k_is)
    (case l43 => k_is)
    (case c43 => k_is)
    (case k43 => k_is)
    (case a44 => k_is)
    (case l44 => k_is)
    (case c44 => k_is)
    (case k44 => k_is)
    (case a45 => k_is)
    (case l45 => k_is)
    (case c45 => k_is)
    (case k45 => k_is)
    (case a46 => k_is)
    (case l46 => k_is)
    (case c46 => k_is)
    (case k46 => k_is)
    (case a47 => k_is)
    (case l47 => k_is)
    (case c47 => k_is)
    (case k47 => k_is)
    (case a48 => k_is)
    (case l48 => k_is)
    (case c48 => k_is)
    (case k48 => k_is)
    (case a49 => k_is)
    (case l49 => k_is)
    (case c49 => k_is)
    (case k49 => k_is)
    (case a50 => k_is)
    (case l50 => k_is)
    (case c50 => k_is)
    (case k50 => k_is)
    (case a51 => k_is)
    (case l51 => k_is)
    (case c51 => k_is)
    (case k51 => k_is)
    (case z_bool => k_is)
    (case z_enumerate => k_is)
    (case z_int => k_is)
    (case z_isinstance => k_is)
    (case z_len => k_is)
    (case z_max => k_is)
    (case z_min => k_is)
    (case z_range => k_is)
    (case z_repr => k_is)
    (case z_str => k_is)
    (case z_tuple => k_is)
    (case c_MOST => k_is)
    (case c_MOST_BLOCKS => k_is)
    (case c_MOST_FILES => k_is)
    (case c_MOST_GROWTH_checks => k_is)
    (case c_MOST_GROWTH_numbers => k_is)
    (case c_MOST_NUMBER => k_is)
    (case c_MOST_SHARE => k_is)
    (case ga_InvalidNumber => k_is)
    (case ga_GrowError => k_is)
    (case ga_InvalidBook => k_is)
    (case ga_Book => k_is)
    (case ga_BothWishes => k_is)
    (case ga_Wish => k_is)
    (case ga_EitherWish => k_is)
    (case ga_FewPieces => k_is)
    (case ga_LittleIdle => k_is)
    (case ga_NoRefusal => k_is)
    (case ga_InvalidChoice => k_is)
    (case mi6 => k_is)
    (case mf6 => k_is)
    (case l6 => k_is)
    (case c6 => k_is)
    (case k6 => k_is)
    (case kw6_share => k_is)
    (case pa7 => k_is)
    (case pg7 => k_is)
    (case pt7 => k_is)
    (case pc7 => k_is)
    (case l7 => k_is)
    (case c7 => k_is)
    (case k7 => k_is)
    (case pa8 => k_is)
    (case pg8 => k_is)
    (case pt8 => k_is)
    (case pc8 => k_is)
    (case l8 => k_is)
    (case c8 => k_is)
    (case k8 => k_is)
    (case mi9 => k_is)
    (case mf9 => k_is)
    (case l9 => k_is)
    (case c9 => k_is)
    (case k9 => k_is)
    (case mi10 => k_is)
    (case mf10 => k_is)
    (case l10 => k_is)
    (case c10 => k_is)
    (case k10 => k_is)
    (case mi23 => k_is)
    (case mf23 => k_is)
    (case l23 => k_is)
    (case c23 => k_is)
    (case k23 => k_is)
    (case mi24 => k_is)
    (case mf24 => k_is)
    (case l24 => k_is)
    (case c24 => k_is)
    (case k24 => k_is)
    (case mi25 => k_is)
    (case mf25 => k_is)
    (case l25 => k_is)
    (case c25 => k_is)
    (case k25 => k_is)
    (case mi26 => k_is)
    (case mf26 => k_is)
    (case l26 => k_is)
    (case c26 => k_is)
    (case k26 => k_is)
    (case mi27 => k_is)
    (case mf27 => k_is)
    (case l27 => k_is)
    (case c27 => k_is)
    (case k27 => k_is)
    (case fc27 => k_is)
    (case mi28 => k_is)
    (case mf28 => k_is)
    (case l28 => k_is)
    (case c28 => k_is)
    (case k28 => k_is)
    (case fc28 => k_is)
    (case mi29 => k_is)
    (case mf29 => k_is)
    (case l29 => k_is)
    (case c29 => k_is)
    (case k29 => k_is)
    (case mi30 => k_is)
    (case mf30 => k_is)
    (case l30 => k_is)
    (case c30 => k_is)
    (case k30 => k_is)
    (case fc30 => k_is)
    (case mi31 => k_is)
    (case mf31 => k_is)
    (case l31 => k_is)
    (case c31 => k_is)
    (case k31 => k_is)
    (case fc31 => k_is)
    (case mi32 => k_is)
    (case mf32 => k_is)
    (case l32 => k_is)
    (case c32 => k_is)
    (case k32 => k_is)
    (case mi33 => k_is)
    (case mf33 => k_is)
    (case l33 => k_is)
    (case c33 => k_is)
    (case k33 => k_is)
    (case fc33 => k_is)
    (case mi34 => k_is)
    (case mf34 => k_is)
    (case l34 => k_is)
    (case c34 => k_is)
    (case k34 => k_is)
    (case fc34 => k_is)
    (case mi35 => k_is)
    (case mf35 => k_is)
    (case l35 => k_is)
    (case c35 => k_is)
    (case k35 => k_is)
    (case mi36 => k_is)
    (case mf36 => k_is)
    (case l36 => k_is)
    (case c36 => k_is)
    (case k36 => k_is)
    (case fc36 => k_is)
    (case mi37 => k_is)
    (case mf37 => k_is)
    (case l37 => k_is)
    (case c37 => k_is)
    (case k37 => k_is)
    (case fc37 => k_is)
    (case mi38 => k_is)
    (case mf38 => k_is)
    (case l38 => k_is)
    (case c38 => k_is)
    (case k38 => k_is)
    (case mi39 => k_is)
    (case mf39 => k_is)
    (case l39 => k_is)
    (case c39 => k_is)
    (case k39 => k_is)
    (case fc39 => k_is)
    (case mi40 => k_is)
    (case mf40 => k_is)
    (case l40 => k_is)
    (case c40 => k_is)
    (case k40 => k_is)
    (case fc40 => k_is)
    (case wpg_Book => k_is)
    (case whd_Book => k_is)
    (case wpo_Book => k_is)
    (case wsa_Book => k_is)
    (case wmk_Book => k_is)
    (case wkp_Book => k_is)
    (case wpg_BothWishes => k_is)
    (case whd_BothWishes => k_is)
    (case wpo_BothWishes => k_is)
    (case wsa_BothWishes => k_is)
    (case wmk_BothWishes => k_is)
    (case wkp_BothWishes => k_is)
    (case wpg_Wish => k_is)
    (case whd_Wish => k_is)
    (case wpo_Wish => k_is)
    (case wsa_Wish => k_is)
    (case wpg_EitherWish => k_is)
    (case whd_EitherWish => k_is)
    (case wpo_EitherWish => k_is)
    (case wsa_EitherWish => k_is)
    (case wmk_EitherWish => k_is)
    (case wkp_EitherWish => k_is)
    (case wpg_FewPieces => k_is)
    (case whd_FewPieces => k_is)
    (case wpo_FewPieces => k_is)
    (case wsa_FewPieces => k_is)
    (case wmk_FewPieces => k_is)
    (case wkp_FewPieces => k_is)
    (case wpg_LittleIdle => k_is)
    (case whd_LittleIdle => k_is)
    (case wpo_LittleIdle => k_is)
    (case wsa_LittleIdle => k_is)
    (case wmk_LittleIdle => k_is)
    (case wkp_LittleIdle => k_is)
    (case wpg_NoRefusal => k_is)
    (case whd_NoRefusal => k_is)
    (case wpo_NoRefusal => k_is)
    (case wsa_NoRefusal => k_is)
    (case wmk_NoRefusal => k_is)
    (case wkp_NoRefusal => k_is)
    (case wcl_Book => k_is)
    (case wsp_Book => k_is)
    (case wtk_Book => k_is)
    (case wmr_Book => k_is)
    (case wsf_BothWishes => k_is)
    (case wcl_BothWishes => k_is)
    (case wsp_BothWishes => k_is)
    (case wtk_BothWishes => k_is)
    (case wmr_BothWishes => k_is)
    (case wsf_Wish => k_is)
    (case wcl_Wish => k_is)
    (case wsp_Wish => k_is)
    (case wtk_Wish => k_is)
    (case wmr_Wish => k_is)
    (case wsf_EitherWish => k_is)
    (case wcl_EitherWish => k_is)
    (case wsp_EitherWish => k_is)
    (case wtk_EitherWish => k_is)
    (case wmr_EitherWish => k_is)
    (case wsf_FewPieces => k_is)
    (case wcl_FewPieces => k_is)
    (case wsp_FewPieces => k_is)
    (case wtk_FewPieces => k_is)
    (case wmr_FewPieces => k_is)
    (case wsf_LittleIdle => k_is)
    (case wcl_LittleIdle => k_is)
    (case wsp_LittleIdle => k_is)
    (case wtk_LittleIdle => k_is)
    (case wmr_LittleIdle => k_is)
    (case wsf_NoRefusal => k_is)
    (case wcl_NoRefusal => k_is)
    (case wsp_NoRefusal => k_is)
    (case wtk_NoRefusal => k_is)
    (case wmr_NoRefusal => k_is)
    (case wk_non_Wish => first | rfl | k_is)
    (case wk_bl_Wish => first | rfl | k_is)
    (case wk_int_Wish => first | rfl | k_is)
    (case wk_str_Wish => first | rfl | k_is)
    (case wk_tup_Wish => first | rfl | k_is)
    (case wk_lst_Wish => first | rfl | k_is)
    (case wi_Book_Wish => first | rfl | k_is)
    (case wi_BothWishes_Wish => first | rfl | k_is)
    (case wi_Wish_Wish => first | rfl | k_is)
    (case wi_EitherWish_Wish => first | rfl | k_is)
    (case wi_FewPieces_Wish => first | rfl | k_is)
    (case wi_LittleIdle_Wish => first | rfl | k_is)
    (case wi_NoRefusal_Wish => first | rfl | k_is)
    (case wnf_FewPieces_FewPieces => k_is)
    (case wnf_FewPieces_LittleIdle => k_is)
    (case wnf_FewPieces_NoRefusal => k_is)
    (case wnf_FewPieces_BothWishes => k_is)
    (case wnf_FewPieces_EitherWish => k_is)
    (case wnf_LittleIdle_FewPieces => k_is)
    (case wnf_LittleIdle_LittleIdle => k_is)
    (case wnf_LittleIdle_NoRefusal => k_is)
    (case wnf_LittleIdle_BothWishes => k_is)
    (case wnf_LittleIdle_EitherWish => k_is)
    (case wnf_NoRefusal_FewPieces => k_is)
    (case wnf_NoRefusal_LittleIdle => k_is)
    (case wnf_NoRefusal_NoRefusal => k_is)
    (case wnf_NoRefusal_BothWishes => k_is)
    (case wnf_NoRefusal_EitherWish => k_is)
    (case wnf_BothWishes_FewPieces => k_is)
    (case wnf_BothWishes_LittleIdle => k_is)
    (case wnf_BothWishes_NoRefusal => k_is)
    (case wnf_BothWishes_BothWishes => k_is)
    (case wnf_BothWishes_EitherWish => k_is)
    (case wnf_EitherWish_FewPieces => k_is)
    (case wnf_EitherWish_LittleIdle => k_is)
    (case wnf_EitherWish_NoRefusal => k_is)
    (case wnf_EitherWish_BothWishes => k_is)
    (case wnf_EitherWish_EitherWish => k_is)
    (case wfm_FewPieces_Wish___and__ => k_is)
    (case wnr_FewPieces_Wish___and__ => k_is)
    (case wfm_LittleIdle_Wish___and__ => k_is)
    (case wnr_LittleIdle_Wish___and__ => k_is)
    (case wfm_NoRefusal_Wish___and__ => k_is)
    (case wnr_NoRefusal_Wish___and__ => k_is)
    (case wfm_BothWishes_Wish___and__ => k_is)
    (case wnr_BothWishes_Wish___and__ => k_is)
    (case wfm_EitherWish_Wish___and__ => k_is)
    (case wnr_EitherWish_Wish___and__ => k_is)
    (case wfm_FewPieces_Wish___or__ => k_is)
    (case wnr_FewPieces_Wish___or__ => k_is)
    (case wfm_LittleIdle_Wish___or__ => k_is)
    (case wnr_LittleIdle_Wish___or__ => k_is)
    (case wfm_NoRefusal_Wish___or__ => k_is)
    (case wnr_NoRefusal_Wish___or__ => k_is)
    (case wfm_BothWishes_Wish___or__ => k_is)
    (case wnr_BothWishes_Wish___or__ => k_is)
    (case wfm_EitherWish_Wish___or__ => k_is)
    (case wnr_EitherWish_Wish___or__ => k_is)
    (case wfm_FewPieces_Wish___eq__ => k_is)
    (case wfm_LittleIdle_Wish___eq__ => k_is)
    (case wfm_NoRefusal_Wish___eq__ => k_is)
    (case wfm_BothWishes_Wish___eq__ => k_is)
    (case wfm_EitherWish_Wish___eq__ => k_is)
    (case wn_Book_own_share => k_is)
    (case wn_Book_own_roof => k_is)
    (case wn_Book_own_first => k_is)
    (case wn_FewPieces_most => k_is)
    (case wn_FewPieces_size => k_is)
    (case wn_LittleIdle_most => k_is)
    (case wn_LittleIdle_size => k_is)
    (case wn_NoRefusal_at_least => k_is)
    (case wn_NoRefusal_files => k_is)
    (case wn_NoRefusal_blocks => k_is)
    (case wn_BothWishes_other => k_is)
    (case wn_BothWishes_one => k_is)
    (case wn_EitherWish_other => k_is)
    (case wn_EitherWish_one => k_is)
    (case xL_InvalidNumber => k_is)
    (case xsa_InvalidNumber => k_is)
    (case xga_InvalidNumber => k_is)
    (case xgg_InvalidNumber => k_is)
    (case xnf_InvalidNumber => k_is)
    (case xi_InvalidNumber => k_is)
    (case xt_InvalidNumber => k_is)
    (case xl_InvalidNumber => k_is)
    (case xc_InvalidNumber => k_is)
    (case xki_InvalidNumber => k_is)
    (case xk_InvalidNumber => k_is)
    (case xe_InvalidNumber => k_is)
    (case xty_InvalidNumber => k_is)
    (case xh_InvalidNumber => k_is)
    (case xcl_InvalidNumber => k_is)
    (case xsp_InvalidNumber => k_is)
    (case xtk_InvalidNumber => k_is)
    (case xm_InvalidNumber => k_is)
    (case xL_InvalidBook => k_is)
    (case xsa_InvalidBook => k_is)
    (case xga_InvalidBook => k_is)
    (case xgg_InvalidBook => k_is)
    (case xnf_InvalidBook => k_is)
    (case xi_InvalidBook => k_is)
    (case xt_InvalidBook => k_is)
    (case xl_InvalidBook => k_is)
    (case xc_InvalidBook => k_is)
    (case xki_InvalidBook => k_is)
    (case xk_InvalidBook => k_is)
    (case xe_InvalidBook => k_is)
    (case xty_InvalidBook => k_is)
    (case xh_InvalidBook => k_is)
    (case xcl_InvalidBook => k_is)
    (case xsp_InvalidBook => k_is)
    (case xtk_InvalidBook => k_is)
    (case xm_InvalidBook => k_is)
    (case ye_GrowError => k_is)
    (case yh_GrowError => k_is)
    (case yt_GrowError => k_is)
    (case ys_InvalidNumber_GrowError => first | rfl | k_is)
    (case ys_InvalidBook_GrowError => first | rfl | k_is)
    (case yk_InvalidNumber_InvalidNumber => first | rfl | k_is)
    (case yk_InvalidBook_InvalidNumber => first | rfl | k_is)
    (case yk_InvalidNumber_InvalidChoice => first | rfl | k_is)
    (case yk_InvalidBook_InvalidChoice => first | rfl | k_is)
