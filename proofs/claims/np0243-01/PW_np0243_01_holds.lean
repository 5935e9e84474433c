import PyProof.Rows.All
import Wide.All
import OpenK.AllK
import Wide.FinOn
import PySem.Challenge.RW_np0243_01
open PySem PySem.W PyProof.Rows
set_option Elab.async false
set_option autoImplicit false
set_option linter.all false
namespace Mine
section
local macro_rules | `(tactic| o_head $_) => `(tactic| skip)
set_option maxRecDepth 100000 in
set_option maxHeartbeats 8000000 in
theorem hd : ∃ T : Prop, (T → PySem.Challenge.rw_np0243_01.row.Holds) := by
  refine' ⟨_, fun hc => ?g⟩
  case g =>
    k_head
    exact hc
end
end Mine
open PySem.Calls
set_option maxRecDepth 100000
set_option maxHeartbeats 4000000
namespace Mine


inductive AV where
  | none
  | bool (b : Bool)
  | int (i : Int)
  | str (s : Str)
  | ref (a : Addr)
  | raw (v : Value)

inductive RV : AV → Value → Prop
  | none : RV .none .none
  | bool (b : Bool) : RV (.bool b) (.bool b)
  | int (i : Int) (t : Tok) : RV (.int i) (.int i t)
  | str (s : Str) (t : Tok) : RV (.str s) (.str s t)
  | ref (a : Addr) : RV (.ref a) (.ref a)
  | raw (v : Value) : RV (.raw v) v

inductive RVs : List AV → List Value → Prop
  | nil : RVs [] []
  | cons {a : AV} {v : Value} {as : List AV} {vs : List Value} : RV a v → RVs as vs → RVs (a :: as) (v :: vs)

theorem RVs.length {as : List AV} {vs : List Value} (h : RVs as vs) : vs.length = as.length := by
  induction h with
  | nil => rfl
  | cons _ _ ih => simp [ih]
theorem RVs.append {as bs : List AV} {vs ws : List Value} (h : RVs as vs) (k : RVs bs ws) : RVs (as ++ bs) (vs ++ ws) := by
  induction h with
  | nil => exact k
  | cons h1 _ ih => exact .cons h1 ih
theorem RVs.get {as : List AV} {vs : List Value} (h : RVs as vs) : ∀ {i : Nat} {a : AV}, as[i]? = some a → ∃ v, vs[i]? = some v ∧ RV a v := by
  induction h with
  | nil => intro i a e; simp at e
  | cons h1 _ ih =>
    intro i a e
    cases i with
    | zero => simp only [List.getElem?_cons_zero, Option.some.injEq] at e; subst e; exact ⟨_, rfl, h1⟩
    | succ i => simp only [List.getElem?_cons_succ] at e ⊢; exact ih e
theorem RVs.set {as : List AV} {vs : List Value} (h : RVs as vs) {a : AV} {v : Value} (hv : RV a v) : ∀ i : Nat, RVs (as.set i a) (vs.set i v) := by
  induction h with
  | nil => intro i; exact .nil
  | cons h1 h2 ih =>
    intro i
    cases i with
    | zero => exact .cons hv h2
    | succ i => exact .cons h1 (ih i)
theorem RVs.take {as : List AV} {vs : List Value} (h : RVs as vs) : ∀ i : Nat, RVs (as.take i) (vs.take i) := by
  induction h with
  | nil => intro i; simp; exact .nil
  | cons h1 h2 ih =>
    intro i
    cases i with
    | zero => exact .nil
    | succ i => exact .cons h1 (ih i)
theorem RVs.drop {as : List AV} {vs : List Value} (h : RVs as vs) : ∀ i : Nat, RVs (as.drop i) (vs.drop i) := by
  induction h with
  | nil => intro i; simp; exact .nil
  | cons h1 h2 ih =>
    intro i
    cases i with
    | zero => exact .cons h1 h2
    | succ i => exact ih i

inductive AO where
  | list (vs : List AV)
  | tup (vs : List AV)
  | inst (C : Addr) (fs : List (Str × AV))
  | scr (ns : List Int)

noncomputable abbrev AH := Addr → Option AO
noncomputable def AH.set (h : AH) (a : Addr) (o : AO) : AH := fun b => if b = a then some o else h b
theorem AH.set_self (h : AH) (a : Addr) (o : AO) : h.set a o a = some o := if_pos rfl
theorem AH.set_ne (h : AH) {a b : Addr} (o : AO) (n : b ≠ a) : h.set a o b = h b := if_neg n
theorem AH.set_set (h : AH) (a : Addr) (o o' : AO) : (h.set a o).set a o' = h.set a o' := by
  funext b; unfold AH.set; split <;> rfl
theorem AH.set_same {h : AH} {a : Addr} {o : AO} (e : h a = some o) : h.set a o = h := by
  funext b; unfold AH.set; split
  · rename_i q; rw [q, e]
  · rfl
theorem AH.set_comm (h : AH) {a b : Addr} (o o' : AO) (n : a ≠ b) : (h.set a o).set b o' = (h.set b o').set a o := by
  funext c; unfold AH.set; split
  · rename_i q; rw [if_neg (fun z => n (z.symm.trans q))]
  · rfl
theorem AH.ne_of {h : AH} {a b : Addr} {o : AO} (e : h a = some o) (f : h b = none) : a ≠ b := by
  rintro rfl; rw [e] at f; cases f
theorem AH.ne_of2 {h : AH} {a b : Addr} {o o' : AO} (e : h a = some o) (f : h b = some o') (n : o ≠ o') : a ≠ b := by
  rintro rfl; rw [e] at f; cases f; exact n rfl

noncomputable abbrev tupOf (its : Array Value) (n : Nat) : Obj := { cls := .type "tuple", data := .seq its n }

inductive RFs : List (Str × AV) → List DictEntry → Prop
  | nil : RFs [] []
  | cons {x : Str} {a : AV} {v : Value} {k : Int} {t : Tok} {fs : List (Str × AV)} {es : List DictEntry} : RV a v → RFs fs es → RFs ((x, a) :: fs) (⟨k, .str x t, v⟩ :: es)

inductive RO (base : Heap) (news : List (Addr × Obj)) (ow : Addr → Option Addr) (a : Addr) : AO → Prop
  | list {vs : List AV} {vs' : List Value} {n : Nat} : (a, listOf vs'.toArray n) ∈ news → ow a = some a → RVs vs vs' → RO base news ow a (.list vs)
  | tup {vs : List AV} {vs' : List Value} {n : Nat} : (a, tupOf vs'.toArray n) ∈ news → ow a = some a → RVs vs vs' → RO base news ow a (.tup vs)
  | inst {C d : Addr} {fs : List (Str × AV)} {es : List DictEntry} {n : Nat} : (a, instObj C d) ∈ news → (d, dictOf es n) ∈ news → ow a = some a → ow d = some a → RFs fs es → RO base news ow a (.inst C fs)
  | scr {ns : List Int} {vs : List Value} : base.IsList a vs.toArray → IntsAre vs ns → RO base news ow a (.scr ns)

noncomputable def NsObj (o : Obj) (m : Str → Option Value) : Prop := ∃ es ep, o.data = .dict es ep ∧ StrKeys es ∧ ∀ name, nsFind es name = m name
theorem NsObj.slots {o : Obj} {m : Str → Option Value} (h : NsObj o m) (sl : Array (Option Value)) : NsObj { o with slots := sl } m := h

noncomputable def FrsIn (news : List (Addr × Obj)) (ow : Addr → Option Addr) (fs : List (Env × (Str → Option Value))) : Prop :=
  ∀ x ∈ fs, ∃ L o, x.1.frame = some L ∧ (L, o) ∈ news ∧ ow L = none ∧ NsObj o x.2

noncomputable def FrsOk (fs : List (Env × (Str → Option Value))) : Prop :=
  (∀ x ∈ fs, x.1.scope.kind ≠ .module) ∧ (fs.map fun x => x.1.frame).Nodup

structure RL (base : Heap) (news : List (Addr × Obj)) (ow : Addr → Option Addr) (fr : List (Addr × Obj)) (fs : List (Env × (Str → Option Value))) (ah : AH) : Prop where
  nd : (news.map (·.1)).Nodup
  obj : ∀ a o, ah a = some o → RO base news ow a o
  frm : ∀ p ∈ fr, p ∈ news ∧ ow p.1 = none
  fss : FrsIn news ow fs
  off : ∀ p ∈ fr, ∀ x ∈ fs, x.1.frame ≠ some p.1

noncomputable abbrev Loc := Str → Option AV
noncomputable def RM (m : Loc) (vm : Str → Option Value) : Prop := ∀ x a, m x = some a → ∃ v, vm x = some v ∧ RV a v
noncomputable def Loc.put (m : Loc) (x : Str) (a : AV) : Loc := fun y => if y = x then some a else m y
theorem RM.put {m : Loc} {vm : Str → Option Value} (h : RM m vm) {x : Str} {a : AV} {v : Value} (hv : RV a v) : RM (m.put x a) (fun y => if y = x then some v else vm y) := by
  intro y b e
  unfold Loc.put at e
  by_cases q : y = x
  · rw [if_pos q] at e; cases e; exact ⟨v, if_pos q, hv⟩
  · rw [if_neg q] at e; obtain ⟨u, hu, hr⟩ := h y b e; exact ⟨u, (if_neg q).trans hu, hr⟩

structure Cx where
  A₀ : Around
  base : Heap
  fs : List (Env × (Str → Option Value))
  L : Addr
  a : Addr
  mean : ExcName → Option Value
  mg : Str → Option Value
  mb : Str → Option Value
  vp : Program
  lo : List Str

structure FE where
  cn : Str
  cs : Scope
  cd : Value

noncomputable abbrev Cx.env (c : Cx) (fe : FE) : Env := envOf fe.cn fe.cs c.L c.a fe.cd
noncomputable abbrev Cx.A (c : Cx) (fe : FE) : Around := c.A₀.deeper (c.env fe)

structure Cx.Ok (w : World) (n : Nat) (fe : FE) (c : Cx) : Prop where
  frames : c.A₀.frames = some (c.fs.map (·.1))
  hh : c.A₀.handled = none
  dep : c.A₀.depth + n ≤ 900
  un : c.A₀.units + 20 * n ≤ 9000
  K : (hd.heap_1 w.params).In c.base
  T : Top c.vp c.lo c.mean c.mg c.mb c.base
  frs : FrsOk c.fs
  low : ∀ x ∈ c.fs, ∀ L, x.1.frame = some L → L < c.L
  hk : fe.cs.kind = .function

noncomputable def St (c : Cx) (m : Loc) (fr : List (Addr × Obj)) (ah : AH) (s : Shared) : Prop :=
  ∃ vm news ow, Fr c.base c.L s.heap vm ∧ RM m vm ∧ News c.base c.L s.heap news ∧ RL c.base news ow fr c.fs ah

noncomputable abbrev prog : Program := PySem.Challenge.rw_np0243_01.row.prog

inductive ExcAt (B : Heap) (envs : List Env) (ea L : Addr) (h : Heap) : Prop
  | fresh {oe : Obj} {vs : Array Value} {a0 : Value} : B.StaysIn h → B.get? ea = none → h.FunFrames B envs → h.get? ea = some oe → oe.cls = .ref 57 → oe.data = .fields vs → vs[1]? = some .none → vs[0]? = some a0 → ExcAt B envs ea L h
  | flying {a0 : Value} : Heap.FlyingW B envs ea (.ref 57) a0 h → ExcAt B envs ea L h
  | held {a0 : Value} : Heap.HeldW B envs ea (.ref 57) a0 L h → ExcAt B envs ea L h

noncomputable def FramesUp (base B h : Heap) (l : List (Env × (Str → Option Value))) : Prop :=
  ∀ x ∈ l, ∃ L o, x.1.frame = some L ∧ base.get? L = none ∧ B.get? L = none ∧ h.get? L = some o ∧ NsObj o x.2

theorem FramesUp.up {base B h h' : Heap} {l : List (Env × (Str → Option Value))} (x : FramesUp base B h l) (u : h.UpToSlots h') : FramesUp base B h' l := by
  intro y hy
  obtain ⟨L, o, h1, h2, h3, h4, h5⟩ := x y hy
  obtain ⟨sl, hs⟩ := u L o h4 (fun vs q => by obtain ⟨es, ep, e, _⟩ := h5; rw [q] at e; cases e)
  exact ⟨L, _, h1, h2, h3, hs, h5⟩


structure LedB (base B : Heap) (fr : List (Addr × Obj)) (ah : AH) (news : List (Addr × Obj)) (ow : Addr → Option Addr) : Prop where
  stay : base.StaysIn B
  led : ∀ q ∈ news, B.get? q.1 = some q.2 ∧ base.get? q.1 = none
  nd : (news.map (·.1)).Nodup
  obj : ∀ a o, ah a = some o → RO base news ow a o
  frm : ∀ p ∈ fr, p ∈ news ∧ ow p.1 = none

noncomputable def Raised (c : Cx) (fe : FE) (fr : List (Addr × Obj)) (ah : AH) (e : Value) (s : Shared) : Prop :=
  ∃ ea B news ow vm, e = .ref ea ∧ LedB c.base B fr ah news ow ∧ FramesUp c.base B s.heap ((c.env fe, vm) :: c.fs) ∧ ExcAt B (c.env fe :: c.fs.map (·.1)) ea c.L s.heap


noncomputable def Tr {α β : Type} (w : World) (R : β → α → Prop) (n : Nat) (fe : FE) (t : Env → Sem α) (m : Loc) (ah : AH) (Q : β → Loc → AH → Prop) (X : AH → Prop) : Prop :=
  ∀ (c : Cx) (fr : List (Addr × Obj)) (s : Shared), c.Ok w n fe → St c m fr ah s → ∀ (Qc : α → Shared → Prop) (Ec : Value → Shared → Prop),
    (∀ b a m' ah' h tk, Q b m' ah' → R b a → St c m' fr ah' { s with heap := h, toks := tk } → Qc a { s with heap := h, toks := tk }) →
    (∀ e ah' h tk, X ah' → Raised c fe fr ah' e { s with heap := h, toks := tk } → Ec e { s with heap := h, toks := tk }) →
    wpAny (model prog w) (c.A fe) (t (c.env fe)) Qc Ec s

section
variable {α β γ δ : Type} {w : World} {n : Nat} {fe : FE} {m : Loc} {ah : AH} {X : AH → Prop}

theorem Tr.bind {R : β → α → Prop} {R' : δ → γ → Prop} {t : Env → Sem α} {f : Env → α → Sem γ} {Q : δ → Loc → AH → Prop}
    (h : Tr w R n fe t m ah (fun b m' ah' => ∀ a, R b a → Tr w R' n fe (fun env => f env a) m' ah' Q X) X) :
    Tr w R' n fe (fun env => t env >>= f env) m ah Q X := by
  intro c fr s hc hs Qc Ec hQ hE
  refine wpAny_bind (h c fr s hc hs _ _ (fun b a m' ah' h tk hq hr hs' => ?_) hE)
  exact hq a hr c fr _ hc hs' _ _ (fun b a m' ah' h' tk' hq hr hs' => hQ b a m' ah' h' tk' hq hr hs') fun e ah' h' tk' x r => hE e ah' h' tk' x r

theorem Tr.pure {R : β → α → Prop} {a : α} {b : β} {Q : β → Loc → AH → Prop} (hr : R b a) (h : Q b m ah) : Tr w R n fe (fun _ => Pure.pure a) m ah Q X := by
  intro c fr s hc hs Qc Ec hQ hE
  exact wpAny_pure (hQ b a m ah s.heap s.toks h hr hs)

theorem Tr.mono {R : β → α → Prop} {t : Env → Sem α} {Q Q' : β → Loc → AH → Prop} {X' : AH → Prop} (h : Tr w R n fe t m ah Q X) (hQ : ∀ b m' ah', Q b m' ah' → Q' b m' ah') (hX : ∀ ah', X ah' → X' ah') : Tr w R n fe t m ah Q' X' := by
  intro c fr s hc hs Qc Ec kQ kE
  exact h c fr s hc hs Qc Ec (fun b a m' ah' h tk hq => kQ b a m' ah' h tk (hQ _ _ _ hq)) fun e ah' h tk x => kE e ah' h tk (hX _ x)

theorem Tr.conv {R : β → α → Prop} {R' : δ → α → Prop} {t : Env → Sem α} {Q : β → Loc → AH → Prop} {Q' : δ → Loc → AH → Prop} (h : Tr w R n fe t m ah Q X) (hQ : ∀ b a m' ah', Q b m' ah' → R b a → ∃ d, R' d a ∧ Q' d m' ah') : Tr w R' n fe t m ah Q' X := by
  intro c fr s hc hs Qc Ec kQ kE
  refine h c fr s hc hs Qc Ec (fun b a m' ah' h tk hq hr hs' => ?_) kE
  obtain ⟨d, hd, hq'⟩ := hQ _ _ _ _ hq hr
  exact kQ d a m' ah' h tk hq' hd hs'

theorem Tr.standAt {pos : Pos} {f : Env → Sem α} {R : β → α → Prop} {Q : β → Loc → AH → Prop} (h : Tr w R n fe f m ah Q X) : Tr w R n fe (fun env => PySem.standAt pos >>= fun _ => f env) m ah Q X := by
  intro c fr s hc hs Qc Ec hQ hE
  exact wpAny_bind (wpAny_standAt (h c fr s hc hs Qc Ec hQ hE))

theorem Tr.holding {R : β → α → Prop} {vs : List Value} {t : Env → Sem α} {Q : β → Loc → AH → Prop} (h : Tr w R n fe t m ah Q X) : Tr w R n fe (fun env => PySem.holding vs (t env)) m ah Q X := by
  intro c fr s hc hs Qc Ec hQ hE
  exact wpAny_holding (h c fr s hc hs Qc Ec hQ hE)

theorem Tr.holdingE {R : β → α → Prop} {vs : Env → List Value} {t : Env → Sem α} {Q : β → Loc → AH → Prop} (h : Tr w R n fe t m ah Q X) : Tr w R n fe (fun env => PySem.holding (vs env) (t env)) m ah Q X := by
  intro c fr s hc hs Qc Ec hQ hE
  exact wpAny_holding (h c fr s hc hs Qc Ec hQ hE)

theorem Tr.rule {tag : String} {f : Env → Sem α} {R : β → α → Prop} {Q : β → Loc → AH → Prop} (h : Tr w R n fe f m ah Q X) : Tr w R n fe (fun env => PySem.rule tag >>= fun _ => f env) m ah Q X := by
  intro c fr s hc hs Qc Ec hQ hE
  exact wpAny_bind (wpAny_rule (h c fr s hc hs Qc Ec hQ hE))

theorem Tr.of_eq {R : β → α → Prop} {t u : Env → Sem α} {Q : β → Loc → AH → Prop} (e : ∀ env, t env = u env) (h : Tr w R n fe u m ah Q X) : Tr w R n fe t m ah Q X := by
  intro c fr s hc hs Qc Ec hQ hE
  rw [e]; exact h c fr s hc hs Qc Ec hQ hE


theorem Tr.leaf {R : β → α → Prop} {t : Env → Sem α} {Q : β → Loc → AH → Prop} {b : β}
    (h : ∀ (A : Around) (env : Env) (Q' : α → Shared → Prop) (E : Value → Shared → Prop) (s : Shared), (∀ a tk, R b a → Q' a { s with toks := tk }) → wpAny (model prog w) A (t env) Q' E s) (hq : Q b m ah) : Tr w R n fe t m ah Q X := by
  intro c fr s hc hs Qc Ec hQ hE
  exact h _ _ _ _ _ fun a tk hr => hQ b a m ah s.heap tk hq hr hs

end


noncomputable abbrev Ev (w : World) (n : Nat) (fe : FE) (e : Expr) (m : Loc) (ah : AH) (Q : AV → AH → Prop) (X : AH → Prop) : Prop :=
  Tr w RV n fe (eval e) m ah (fun v m' ah' => m' = m ∧ Q v ah') X
noncomputable abbrev Ts (w : World) (n : Nat) (fe : FE) (e : Expr) (m : Loc) (ah : AH) (Q : Bool → AH → Prop) (X : AH → Prop) : Prop :=
  Tr w (fun (b : Bool) a => a = b) n fe (fun env => isTrue e env (eval e env)) m ah (fun v m' ah' => m' = m ∧ Q v ah') X

inductive AF where
  | next | brk | cont
  | ret (v : AV)
inductive RF : AF → Flow → Prop
  | next : RF .next .next
  | brk : RF .brk .brk
  | cont : RF .cont .cont
  | ret {a : AV} {v : Value} : RV a v → RF (.ret a) (.ret v)
noncomputable abbrev Ex (w : World) (n : Nat) (fe : FE) (ss : List Stmt) (m : Loc) (ah : AH) (Q : AF → Loc → AH → Prop) (X : AH → Prop) : Prop :=
  Tr w RF n fe (execs ss) m ah Q X
noncomputable abbrev Ex1 (w : World) (n : Nat) (fe : FE) (s : Stmt) (m : Loc) (ah : AH) (Q : AF → Loc → AH → Prop) (X : AH → Prop) : Prop :=
  Tr w RF n fe (exec s) m ah Q X
noncomputable abbrev As (w : World) (n : Nat) (fe : FE) (e : Expr) (v : AV) (m : Loc) (ah : AH) (Q : Loc → AH → Prop) (X : AH → Prop) : Prop :=
  ∀ v', RV v v' → Tr w (fun (_ : Unit) (_ : Unit) => True) n fe (fun env => assign e env v') m ah (fun _ => Q) X

noncomputable def Fn (w : World) (n : Nat) (f : Value) (args : List AV) (ah : AH) (Q : AV → AH → Prop) (X : AH → Prop) : Prop :=
  ∀ (fe : FE) (m : Loc) (vs : List Value), RVs args vs → Tr w RV n fe (fun _ => call f vs) m ah (fun v m' ah' => m' = m ∧ Q v ah') X

section
variable {w : World} {n : Nat} {fe : FE} {c : Cx} {fr : List (Addr × Obj)} {ah : AH} {s : Shared} {e : Value}

theorem Cx.Ok.framesA (hc : c.Ok w n fe) : (c.A fe).frames = some (c.env fe :: c.fs.map (·.1)) := Around.frames_deeper hc.frames

theorem up_of_stays {h h' : Heap} {l : List Env} (k : ∀ b o, h.get? b = some o → (∀ vs, o.data ≠ .fields vs) → ∃ sl, h'.get? b = some { o with slots := sl }) : h.UpToSlots h' := k

theorem note_raised {A : Around} {E : Value → Shared → Prop} {Q : Unit → Shared → Prop} (hA : A.frames = some (c.env fe :: c.fs.map (·.1))) (hr : Raised c fe fr ah e s)
    (hQ : ∀ ea B news ow vm a0 h, e = .ref ea → LedB c.base B fr ah news ow → FramesUp c.base B h ((c.env fe, vm) :: c.fs) → Heap.HeldW B (c.env fe :: c.fs.map (·.1)) ea (.ref 57) a0 c.L h → Q () { s with heap := h }) :
    wpAny (model prog w) A (noteFrame e (c.env fe)) Q E s := by
  obtain ⟨ea, B, news, ow, vm, rfl, hl, hf, hx⟩ := hr
  have hfr : (c.env fe).frame = some c.L := rfl
  cases hx with
  | @fresh oe vs a0 k1 k2 k3 k4 k5 k6 k7 k8 =>
    unfold noteFrame
    simp only [hfr]
    refine wpAny_bind (wpAny_field k4 k6 k7 ?_)
    rw [if_neg (by decide)]
    refine wpAny_entryW hA k3 hfr k4 k1 k2 k6 (Array.getElem?_eq_some_iff.mp k7).1 k8 fun h' hN => ?_
    obtain ⟨n1, n2, n3, n4⟩ := hN
    exact hQ ea B news ow vm a0 h' rfl hl (hf.up n4) ⟨n1, k2, n2, k5 ▸ n3⟩
  | @flying a0 k =>
    exact wpAny_looks_onW hA hfr k fun h' hh up => hQ ea B news ow vm a0 h' rfl hl (hf.up up) hh
  | @held a0 k =>
    exact wpAny_noteFrame_againW hfr k.2.2.2 (hQ ea B news ow vm a0 s.heap rfl hl hf k)

theorem setFlight_held {M : Model} {A : Around} {E : Value → Shared → Prop} {Q : Unit → Shared → Prop} {B : Heap} {l : List Env} {ea L : Addr} {a0 : Value} (hh : Heap.HeldW B l ea (.ref 57) a0 L s.heap) (h : Q () s) :
    wpAny M A (do if (← field (.ref ea) 1) == .none then unsupported "frame.own-activation:exception-without-traceback"
                  setFlight (.ref ea) (some L)) Q E s := by
  obtain ⟨f1, f2, f3, oe, vs, T, oT, ts, he, hcls, hd, h1, hnT, hTe, hT, hdT, h3⟩ := hh
  refine wpAny_bind (wpAny_field he hd h1 ?_)
  rw [if_neg (show ¬ ((Value.ref T == Value.none) = true) from by simp)]
  have step : wpAny M A (setFlight (.ref ea) (some L)) Q E s := by
    unfold setFlight
    refine wpAny_bind (wpAny_field he hd h1 ?_)
    rw [if_pos (show (Value.ref T != Value.none) = true from by simp)]
    show wpAny M A (setField (.ref T) 3 (rawInt L)) _ _ s
    refine wpAny_setField hT hdT (Array.getElem?_eq_some_iff.mp h3).1 ?_
    rw [Heap.update_setField_same s.heap T oT ts 3 (rawInt L) hT hdT h3]
    exact h
  first
    | exact wpAny_bind (wpAny_pure step)
    | exact step


noncomputable def EF (c : Cx) (fe : FE) (fr : List (Addr × Obj)) (X : AH → Prop) (s : Shared) : Value → Shared → Prop :=
  fun e s' => ∃ ah h tk, X ah ∧ s' = { s with heap := h, toks := tk } ∧ Raised c fe fr ah e s'

theorem EF.passes {X : AH → Prop} (hc : c.Ok w n fe) : PassesOwn (model prog w) (c.A fe) (c.env fe) (EF c fe fr X s) := by
  rintro e s' ⟨ah, h, tk, hX, rfl, hr⟩
  show wpAny _ _ (noteFrame e (c.env fe)) _ _ _
  refine note_raised hc.framesA hr fun ea B news ow vm a0 h' he hl hf hh => ?_
  subst he
  show wpAny _ _ _ _ _ _
  exact setFlight_held hh ⟨ah, h', tk, hX, rfl, ea, B, news, ow, vm, rfl, hl, hf, .held hh⟩


theorem leave_raised {c' : Cx} {fe' : FE} {vm : Str → Option Value} {A : Around} {E : Value → Shared → Prop} {Q : Unit → Shared → Prop} (hA : A.frames = some (c'.env fe' :: c'.fs.map (·.1))) (hb : c'.base = c.base) (hfs : c'.fs = (c.env fe, vm) :: c.fs) (hr : Raised c' fe' fr ah e s)
    (hQ : ∀ h, Raised c fe fr ah e { s with heap := h } → Q () { s with heap := h }) :
    wpAny (model prog w) A (leaving (c'.env fe') e) Q E s := by
  obtain ⟨ea, B, news, ow, vm', rfl, hl, hf, hx⟩ := hr
  rw [hb] at hl hf
  have hfr : (c'.env fe').frame = some c'.L := rfl
  have fin : ∀ h' a0, s.heap.UpToSlots h' → Heap.FlyingW B (c'.fs.map (·.1)) ea (.ref 57) a0 h' → Q () { s with heap := h' } := fun h' a0 up hfl => by
    refine hQ h' ⟨ea, B, news, ow, vm, rfl, hl, ?_, ?_⟩
    · intro x hx'
      exact (hf.up up) x (List.mem_cons_of_mem _ (hfs ▸ hx'))
    · rw [hfs] at hfl; exact .flying hfl
  cases hx with
  | @fresh oe vs a0 k1 k2 k3 k4 k5 k6 k7 k8 =>
    refine wpAny_leaving_firstW hA k3 hfr k4 k1 k2 k6 k7 k8 fun h' hN => ?_
    obtain ⟨n1, n2, n3, n4⟩ := hN
    exact fin h' a0 n4 ⟨n1, k2, n2.2.2, k5 ▸ n3⟩
  | @flying a0 k =>
    exact wpAny_leaves_onW hA hfr k fun h' hh up => fin h' a0 up hh
  | @held a0 k =>
    unfold leaving
    refine wpAny_bind (wpAny_noteFrame_againW hfr k.2.2.2 ?_)
    refine wpAny_landsW k fun h' hfl up => ?_
    obtain ⟨k1, k2, ⟨_, _, k3⟩, k4⟩ := hfl
    exact fin h' a0 up ⟨k1, k2, k3, k4⟩
end

inductive RBs : List (Str × AV) → List (Str × Value) → Prop
  | nil : RBs [] []
  | cons {x : Str} {a : AV} {v : Value} {as : List (Str × AV)} {vs : List (Str × Value)} : RV a v → RBs as vs → RBs ((x, a) :: as) ((x, v) :: vs)
theorem RBs.append {as bs : List (Str × AV)} {vs ws : List (Str × Value)} (h : RBs as vs) (k : RBs bs ws) : RBs (as ++ bs) (vs ++ ws) := by
  induction h with
  | nil => exact k
  | cons h1 _ ih => exact .cons h1 ih
theorem RBs.reverse {as : List (Str × AV)} {vs : List (Str × Value)} (h : RBs as vs) : RBs as.reverse vs.reverse := by
  induction h with
  | nil => exact .nil
  | cons h1 _ ih => rw [List.reverse_cons, List.reverse_cons]; exact ih.append (.cons h1 .nil)
theorem RBs.lookup {as : List (Str × AV)} {vs : List (Str × Value)} (h : RBs as vs) : RM (fun x => as.lookup x) (fun x => vs.lookup x) := by
  induction h with
  | nil => intro x a e; cases e
  | @cons y a v as vs h1 _ ih =>
    intro x b e
    dsimp only at e ⊢
    rw [List.lookup_cons] at e ⊢
    cases hq : (x == y) with
    | true => rw [hq] at e; cases e; exact ⟨v, rfl, h1⟩
    | false => rw [hq] at e; exact ih x b e
theorem RBs.locals {as : List (Str × AV)} {vs : List (Str × Value)} (h : RBs as vs) {P : Str → Prop} (k : ∀ y ∈ as, P y.1) : ∀ y ∈ vs, P y.1 := by
  induction h with
  | nil => intro y hy; cases hy
  | @cons y a v as vs h1 _ ih =>
    intro z hz
    rcases List.mem_cons.mp hz with rfl | hz
    · exact k _ (List.mem_cons_self)
    · exact ih (fun y hy => k y (List.mem_cons_of_mem _ hy)) z hz

theorem RO.grow {base : Heap} {news news' : List (Addr × Obj)} {ow ow' : Addr → Option Addr} {a : Addr} {o : AO} (h : RO base news ow a o)
    (hs : ∀ p ∈ news, ow p.1 = some a → p ∈ news' ∧ ow' p.1 = some a) : RO base news' ow' a o := by
  cases h with
  | list h1 h2 h3 => have q := hs _ h1 h2; exact .list q.1 q.2 h3
  | tup h1 h2 h3 => have q := hs _ h1 h2; exact .tup q.1 q.2 h3
  | inst h1 h2 h3 h4 h5 =>
    have q := hs _ h1 h3
    have q2 := hs _ h2 h4
    exact .inst q.1 q2.1 q.2 q2.2 h5
  | scr h1 h2 => exact .scr h1 h2

noncomputable abbrev AF.val : AF → AV
  | .ret v => v
  | _ => .none

noncomputable def Cx.push (c : Cx) (fe : FE) (vm : Str → Option Value) (A : Around) (L' f : Addr) : Cx :=
  { A₀ := A, base := c.base, fs := (c.env fe, vm) :: c.fs, L := L', a := f, mean := c.mean, mg := c.mg, mb := c.mb, vp := c.vp, lo := c.lo }

section
variable {w : World} {n : Nat} {fe fe' : FE} {c : Cx} {fr : List (Addr × Obj)} {ah : AH} {m m' : Loc} {s : Shared}


theorem St.enter {vm : Str → Option Value} {news : List (Addr × Obj)} {ow : Addr → Option Addr} {A : Around} {f : Addr} {h₁ : Heap} {binds : List (Str × Value)} {lb : List (Str × AV)} {tk : Nat}
    (F : Fr c.base c.L s.heap vm) (N : News c.base c.L s.heap news) (R : RL c.base news ow fr c.fs ah)
    (hns : h₁.Ns s.heap.objs.size (fun x => binds.reverse.lookup x)) (hk : ∀ b o, s.heap.get? b = some o → h₁.get? b = some o) (hb : RBs lb binds) :
    St (c.push fe vm A s.heap.objs.size f) (fun x => lb.reverse.lookup x) fr ah { s with heap := h₁, toks := tk } := by
  obtain ⟨oL, es, ep, hL, hLd, hLk, hLf⟩ := F.ns
  have nL : ∀ p ∈ news, p.1 ≠ c.L := fun p hp => (N p hp).2.1
  refine ⟨_, (c.L, oL) :: news, fun b => if b = c.L then none else ow b, ⟨hns, fun b o e => hk b o (F.keep b o e), Nat.le_trans F.above (Nat.le_of_lt (Heap.lt_size hL))⟩, hb.reverse.lookup, ?_, ?_, ?_, ?_, ?_, ?_⟩
  · intro p hp
    rcases List.mem_cons.mp hp with rfl | hp
    · exact ⟨hk _ _ hL, Nat.ne_of_lt (Heap.lt_size hL), Heap.get?_none_of_le F.above⟩
    · exact ⟨hk _ _ (N p hp).1, Nat.ne_of_lt (Heap.lt_size (N p hp).1), (N p hp).2.2⟩
  · rw [List.map_cons, List.nodup_cons]
    refine ⟨fun q => ?_, R.nd⟩
    obtain ⟨p, hp, e⟩ := List.mem_map.mp q
    exact nL p hp e
  · exact fun a o e => (R.obj a o e).grow fun p hp q => ⟨List.mem_cons_of_mem _ hp, (if_neg (nL p hp)).trans q⟩
  · exact fun p hp => ⟨List.mem_cons_of_mem _ (R.frm p hp).1, (if_neg (nL p (R.frm p hp).1)).trans (R.frm p hp).2⟩
  · intro x hx
    rcases List.mem_cons.mp hx with rfl | hx
    · exact ⟨c.L, oL, rfl, List.mem_cons_self, if_pos rfl, es, ep, hLd, hLk, hLf⟩
    · obtain ⟨L, o, h1, h2, h3, h4⟩ := R.fss x hx
      exact ⟨L, o, h1, List.mem_cons_of_mem _ h2, (if_neg (nL _ h2)).trans h3, h4⟩
  · intro p hp x hx
    rcases List.mem_cons.mp hx with rfl | hx
    · exact fun q => nL p (R.frm p hp).1 (Option.some.inj q).symm
    · exact R.off p hp x hx

theorem Cx.Ok.push (hc : c.Ok w (n + 1) fe) {vm : Str → Option Value} {A : Around} {L' f : Addr} (hA : A.frames = (c.A fe).frames) (hh : A.handled = none) (hdp : A.depth + n ≤ 900) (hu : A.units + 20 * n ≤ 9000) (hL : c.L < L') (hk : fe'.cs.kind = .function) :
    (c.push fe vm A L' f).Ok w n fe' where
  frames := hA.trans hc.framesA
  hh := hh
  dep := hdp
  un := hu
  K := hc.K
  T := hc.T
  frs := by
    refine ⟨fun x hx => ?_, ?_⟩
    · rcases List.mem_cons.mp hx with rfl | hx
      · show fe.cs.kind ≠ .module
        rw [hc.hk]; decide
      · exact hc.frs.1 x hx
    · show ((some c.L) :: c.fs.map fun x => x.1.frame).Nodup
      rw [List.nodup_cons]
      refine ⟨fun q => ?_, hc.frs.2⟩
      obtain ⟨x, hx, e⟩ := List.mem_map.mp q
      exact absurd (hc.low x hx _ e) (Nat.lt_irrefl _)
  low := by
    intro x hx L e
    rcases List.mem_cons.mp hx with rfl | hx
    · cases e; exact hL
    · exact Nat.lt_trans (hc.low x hx L e) hL
  hk := hk


theorem St.leave {vm : Str → Option Value} {A : Around} {L' f : Addr} (hc : c.Ok w n fe) (hm : RM m vm) (hab : c.base.objs.size ≤ c.L) (hfr : ∀ p ∈ fr, p.1 ≠ c.L) (h : St (c.push fe vm A L' f) m' fr ah s) : St c m fr ah s := by
  obtain ⟨vm', news, ow, F, _, N, R⟩ := h
  obtain ⟨L₁, oL, hL₁, hm₁, how, es, ep, hd, hk, hf⟩ := R.fss _ List.mem_cons_self
  obtain rfl : c.L = L₁ := Option.some.inj hL₁
  have hne : ∀ a, ∀ p ∈ news, ow p.1 = some a → p ∈ news.filter (fun p => !decide (p.1 = c.L)) ∧ ow p.1 = some a := fun a p hp hn => ⟨List.mem_filter.mpr ⟨hp, by
    have : p.1 ≠ c.L := fun e => by rw [e, how] at hn; cases hn
    simp [this]⟩, hn⟩
  refine ⟨vm, news.filter (fun p => !decide (p.1 = c.L)), ow, ⟨⟨oL, es, ep, (N _ hm₁).1, hd, hk, hf⟩, F.keep, hab⟩, hm, ?_, ?_, ?_, ?_, ?_, fun p hp x hx => R.off p hp x (List.mem_cons_of_mem _ hx)⟩
  · intro p hp
    obtain ⟨h1, h2⟩ := List.mem_filter.mp hp
    exact ⟨(N p h1).1, by simpa using h2, (N p h1).2.2⟩
  · exact R.nd.sublist (List.Sublist.map _ List.filter_sublist)
  · exact fun a o e => (R.obj a o e).grow (hne a)
  · exact fun p hp => ⟨List.mem_filter.mpr ⟨(R.frm p hp).1, by simp [hfr p hp]⟩, (R.frm p hp).2⟩
  · intro x hx
    obtain ⟨L, o, h1, h2, h3, h4⟩ := R.fss x (List.mem_cons_of_mem _ hx)
    exact ⟨L, o, h1, List.mem_filter.mpr ⟨h2, by have := Nat.ne_of_lt (hc.low x hx L h1); simp [this]⟩, h3, h4⟩


theorem code_of_def {name qual : Str} {params : Arguments} {body : List Stmt} {scope : Scope} {dV kV doc pm cdv ct oc : Value} {an od : Option Addr} {osl : Array (Option Value)} {f : Addr} {args : List AV} {lb : List (Str × AV)} {Q : AV → AH → Prop} {X : AH → Prop}
    (ho : (hd.heap_1 w.params).lookup f = some ⟨oc, od, .func (fnOf name qual params body scope dV kV doc pm an cdv ct), osl⟩) (hcd : codeIn (hd.heap_1 w.params) cdv qual = true)
    (hb : ∀ (s : Shared) (vs : List Value), (hd.heap_1 w.params).In s.heap → RVs args vs → ∃ binds, BindsTo s (fnOf name qual params body scope dV kV doc pm an cdv ct) ⟨vs, []⟩ binds ∧ RBs lb binds)
    (hloc : ∀ y ∈ lb, scope.names.lookup y.1 = some .local)
    (h : Ex w n ⟨qual, scope, cdv⟩ body (fun x => lb.reverse.lookup x) ah (fun fl _ ah' => Q fl.val ah') X)
    (hco : scope.isCoroutine = false) (hgen : scope.isGenerator = false) (hk : scope.kind = .function) (hcell : ∀ x ∈ scope.names, x.2 ≠ .cell)
    (hc : c.Ok w (n + 1) fe) {A : Around} (hA : A.frames = (c.A fe).frames) (hh : A.handled = none) (hdp : A.depth + n ≤ 900) (hu : A.units + 20 * n ≤ 9000)
    (hs : St c m fr ah s) {vs : List Value} (hvs : RVs args vs) {R : Result → Shared → Prop}
    (hQ : ∀ v v' ah' h tk, Q v ah' → RV v v' → St c m fr ah' { s with heap := h, toks := tk } → R (.ok (.ret v')) { s with heap := h, toks := tk })
    (hE : ∀ e ah' h tk, X ah' → Raised c fe fr ah' e { s with heap := h, toks := tk } → R (.error e) { s with heap := h, toks := tk }) :
    codeAny (model prog w) A (.call (.ref f) ⟨vs, []⟩) R s := by
  obtain ⟨vm, news, ow, F, hm, N, RL₀⟩ := hs
  have X : (hd.heap_1 w.params).In s.heap := hc.K.keeps F.keep
  obtain ⟨binds, hbd, hbs⟩ := hb s vs X hvs
  have hfr : ∀ p ∈ fr, p.1 ≠ c.L := fun p hp => (N p (RL₀.frm p hp).1).2.1
  refine codeAny_call_def (fd := fnOf name qual params body scope dV kV doc pm an cdv ct) (body := body) (binds := binds) (by unfold recursionLimit; omega) (X _ _ ho) rfl (hc.T.nolimit.keeps F.keep) (codeRec_of X hcd) rfl hbd hcell
    (hbs.locals (P := fun x => scope.names.lookup x = some .local) hloc) (fun h₁ hns hk₁ => ?_) hco hgen hk
  have hLlt : c.L < s.heap.objs.size := F.ns.lt
  have hok : (c.push fe vm A s.heap.objs.size f).Ok w n ⟨qual, scope, cdv⟩ := hc.push hA hh hdp hu hLlt hk
  have hst : St (c.push fe vm A s.heap.objs.size f) (fun x => lb.reverse.lookup x) fr ah { s with heap := h₁, toks := s.toks + binds.length } := St.enter F N RL₀ hns hk₁ hbs
  refine h (c.push fe vm A s.heap.objs.size f) fr _ hok hst _ _ (fun fl fl' m' ah' h' tk hq hr hs' => ?_) (fun e ah' h' tk hx hr => ?_)
  · have st := St.leave (m := m) hc hm F.above hfr hs'
    cases hr with
    | ret hv => exact hQ _ _ _ _ _ hq hv st
    | next => exact hQ _ _ _ _ _ hq .none st
    | brk => exact hQ _ _ _ _ _ hq .none st
    | cont => exact hQ _ _ _ _ _ hq .none st
  · exact leave_raised (c := c) (fe := fe) (vm := vm) (c' := c.push fe vm A s.heap.objs.size f) (fe' := ⟨qual, scope, cdv⟩) hok.framesA rfl rfl hr fun h'' hr' => hE e ah' h'' tk hx hr'

theorem Fn.def {name qual : Str} {params : Arguments} {body : List Stmt} {scope : Scope} {dV kV doc pm cdv ct oc : Value} {an od : Option Addr} {osl : Array (Option Value)} {f : Addr} {args : List AV} {lb : List (Str × AV)} {Q : AV → AH → Prop} {X : AH → Prop}
    (ho : (hd.heap_1 w.params).lookup f = some ⟨oc, od, .func (fnOf name qual params body scope dV kV doc pm an cdv ct), osl⟩) (hcd : codeIn (hd.heap_1 w.params) cdv qual = true)
    (hb : ∀ (s : Shared) (vs : List Value), (hd.heap_1 w.params).In s.heap → RVs args vs → ∃ binds, BindsTo s (fnOf name qual params body scope dV kV doc pm an cdv ct) ⟨vs, []⟩ binds ∧ RBs lb binds)
    (hloc : ∀ y ∈ lb, scope.names.lookup y.1 = some .local)
    (hco : scope.isCoroutine = false) (hgen : scope.isGenerator = false) (hk : scope.kind = .function) (hcell : ∀ x ∈ scope.names, x.2 ≠ .cell)
    (h : Ex w n ⟨qual, scope, cdv⟩ body (fun x => lb.reverse.lookup x) ah (fun fl _ ah' => Q fl.val ah') X) : Fn w (n + 1) (.ref f) args ah Q X := by
  intro fe m vs hvs c fr s hc hs Qc Ec hQ hE
  refine wpAny_call (code_of_def ho hcd hb hloc h hco hgen hk hcell hc rfl (show c.A₀.handled = none from hc.hh) ?_ ?_ hs hvs (fun v v' ah' h tk hq hv st => hQ v v' m ah' h tk ⟨rfl, hq⟩ hv st) hE)
  · show c.A₀.depth + 1 + n ≤ 900
    have := hc.dep; omega
  · show c.A₀.units + 3 + 20 * n ≤ 9000
    have := hc.un; omega
end


noncomputable abbrev Vp (w : World) (n : Nat) (fe : FE) (t : Sem Value) (m : Loc) (ah : AH) (Q : AV → AH → Prop) (X : AH → Prop) : Prop :=
  Tr w RV n fe (fun _ => t) m ah (fun v m' ah' => m' = m ∧ Q v ah') X
noncomputable def Bop (w : World) (n : Nat) (fe : FE) (op : Operator) (a b : AV) (m : Loc) (ah : AH) (Q : AV → AH → Prop) (X : AH → Prop) : Prop := ∀ a' b', RV a a' → RV b b' → Vp w n fe (binaryOp op a' b') m ah Q X
noncomputable def Iop (w : World) (n : Nat) (fe : FE) (op : Operator) (a b : AV) (m : Loc) (ah : AH) (Q : AV → AH → Prop) (X : AH → Prop) : Prop := ∀ a' b', RV a a' → RV b b' → Vp w n fe (inplaceOp op a' b') m ah Q X
noncomputable def Cop (w : World) (n : Nat) (fe : FE) (op : CmpOp) (a b : AV) (m : Loc) (ah : AH) (Q : AV → AH → Prop) (X : AH → Prop) : Prop := ∀ a' b', RV a a' → RV b b' → Vp w n fe (compareOp op a' b') m ah Q X
noncomputable def Uop (w : World) (n : Nat) (fe : FE) (op : UnaryOp) (a : AV) (m : Loc) (ah : AH) (Q : AV → AH → Prop) (X : AH → Prop) : Prop := ∀ a', RV a a' → Vp w n fe (unaryOp op a') m ah Q X
noncomputable def Tru (w : World) (n : Nat) (fe : FE) (a : AV) (m : Loc) (ah : AH) (Q : Bool → AH → Prop) (X : AH → Prop) : Prop := ∀ a', RV a a' → Tr w (fun (b : Bool) c => c = b) n fe (fun _ => truthy a') m ah (fun v m' ah' => m' = m ∧ Q v ah') X
noncomputable def Gat (w : World) (n : Nat) (fe : FE) (a : AV) (x : Str) (m : Loc) (ah : AH) (Q : AV → AH → Prop) (X : AH → Prop) : Prop := ∀ a', RV a a' → Vp w n fe (getAttr a' x true) m ah Q X
noncomputable def Sub (w : World) (n : Nat) (fe : FE) (v sl : Expr) (a b : AV) (m : Loc) (ah : AH) (Q : AV → AH → Prop) (X : AH → Prop) : Prop := ∀ a' b', RV a a' → RV b b' → Vp w n fe (subscriptTail v sl a' b') m ah Q X

section
variable {w : World} {n : Nat} {fe : FE} {m : Loc} {ah : AH} {X : AH → Prop} {Q : AV → AH → Prop}

theorem Ev.local {x : Str} {p : Pos} {v : AV} (hm : m x = some v) (hl : fe.cs.names.lookup x = some .local) (hd : (x == ("__debug__" : Str)) = false) (h : Q v ah) : Ev w n fe (.Name x p) m ah Q X := by
  intro c fr s hc hs Qc Ec hQ hE
  obtain ⟨vm, news, ow, F, hmm, N, R⟩ := hs
  obtain ⟨v', hv, hr⟩ := hmm x v hm
  exact ld F hv (hQ v v' m ah s.heap s.toks ⟨rfl, h⟩ hr ⟨vm, news, ow, F, hmm, N, R⟩) hc.hk hl hd

theorem Ev.global {x : Str} {p : Pos} {v : Value} {a : AV} (e : nsIn (hd.heap_1 w.params) mainGlobals x = some (some v)) (hr : RV a v) (hx : fe.cs.names.lookup x = some .globalImplicit) (hd : (x == ("__debug__" : Str)) = false) (h : Q a ah) : Ev w n fe (.Name x p) m ah Q X := by
  intro c fr s hc hs Qc Ec hQ hE
  obtain ⟨vm, news, ow, F, hmm, N, R⟩ := hs
  exact name_K F hc.K (topRead_of hc.T) e (hQ a v m ah s.heap s.toks ⟨rfl, h⟩ hr ⟨vm, news, ow, F, hmm, N, R⟩) hc.hk hx hd

theorem Ev.builtin {x : Str} {p : Pos} {v : Value} (e : nsIn (hd.heap_1 w.params) mainGlobals x = some none) (hv : bootBuiltins x = some v) (hn : x ≠ "__name__") (hx : fe.cs.names.lookup x = some .globalImplicit) (hd : (x == ("__debug__" : Str)) = false) (h : Q (.raw v) ah) : Ev w n fe (.Name x p) m ah Q X := by
  intro c fr s hc hs Qc Ec hQ hE
  obtain ⟨vm, news, ow, F, hmm, N, R⟩ := hs
  exact name_B F hc.K (topRead_of hc.T) e hv hn (hQ (.raw v) v m ah s.heap s.toks ⟨rfl, h⟩ (.raw v) ⟨vm, news, ow, F, hmm, N, R⟩) hc.hk hx hd

theorem Ev.int {i : Int} {k : Nat} {p : Pos} (h : Q (.int i) ah) : Ev w n fe (.Constant (.int i) k p) m ah Q X := by
  intro c fr s hc hs Qc Ec hQ hE
  exact wpAny_Constant_int (hQ _ _ m ah s.heap (s.toks + 1) ⟨rfl, h⟩ (.int i _) hs)
theorem Ev.str {x : Str} {k : Nat} {p : Pos} (h : Q (.str x) ah) : Ev w n fe (.Constant (.str x) k p) m ah Q X := by
  intro c fr s hc hs Qc Ec hQ hE
  exact wpAny_Constant_str (hQ _ _ m ah s.heap (s.toks + 1) ⟨rfl, h⟩ (.str x _) hs)
theorem Ev.none {k : Nat} {p : Pos} (h : Q .none ah) : Ev w n fe (.Constant .none k p) m ah Q X := by
  intro c fr s hc hs Qc Ec hQ hE
  exact wpAny_Constant_none (hQ _ _ m ah s.heap s.toks ⟨rfl, h⟩ .none hs)
theorem Ev.bool {b : Bool} {k : Nat} {p : Pos} (h : Q (.bool b) ah) : Ev w n fe (.Constant (.bool b) k p) m ah Q X := by
  intro c fr s hc hs Qc Ec hQ hE
  exact wpAny_Constant_bool (hQ _ _ m ah s.heap s.toks ⟨rfl, h⟩ (.bool b) hs)

theorem Ev.binop {l r : Expr} {op : Operator} {p : Pos} (h : Ev w n fe l m ah (fun a ah1 => Ev w n fe r m ah1 (fun b ah2 => Bop w n fe op a b m ah2 Q X) X) X) : Ev w n fe (.BinOp l op r p) m ah Q X := by
  intro c fr s hc hs Qc Ec hQ hE
  refine wpAny_BinOp (h c fr s hc hs _ _ (fun a a' m1 ah1 h1 tk1 q1 r1 s1 => ?_) hE)
  obtain ⟨rfl, q1⟩ := q1
  refine q1 c fr _ hc s1 _ _ (fun b b' m2 ah2 h2 tk2 q2 r2 s2 => ?_) fun e ah' h' tk' => hE e ah' h' tk'
  obtain ⟨rfl, q2⟩ := q2
  exact q2 _ _ r1 r2 c fr _ hc s2 _ _ (fun v v' m3 ah3 h3 tk3 => hQ v v' m3 ah3 h3 tk3) fun e ah' h' tk' => hE e ah' h' tk'

theorem Ev.compare {l r : Expr} {op : CmpOp} {p : Pos} (hb : behindInMarks op r = false) (h : Ev w n fe l m ah (fun a ah1 => Ev w n fe r m ah1 (fun b ah2 => Cop w n fe op a b m ah2 Q X) X) X) : Ev w n fe (.Compare l [op] [r] p) m ah Q X := by
  intro c fr s hc hs Qc Ec hQ hE
  refine wpAny_Compare1 (h c fr s hc hs _ _ (fun a a' m1 ah1 h1 tk1 q1 r1 s1 => ?_) hE) hb
  obtain ⟨rfl, q1⟩ := q1
  refine q1 c fr _ hc s1 _ _ (fun b b' m2 ah2 h2 tk2 q2 r2 s2 => ?_) fun e ah' h' tk' => hE e ah' h' tk'
  obtain ⟨rfl, q2⟩ := q2
  exact q2 _ _ r1 r2 c fr _ hc s2 _ _ (fun v v' m3 ah3 h3 tk3 => hQ v v' m3 ah3 h3 tk3) fun e ah' h' tk' => hE e ah' h' tk'

theorem Ts.compare {l r : Expr} {op : CmpOp} {p : Pos} {Q : Bool → AH → Prop} (hb : behindInMarks op r = false) (h : Ev w n fe l m ah (fun a ah1 => Ev w n fe r m ah1 (fun b ah2 => Cop w n fe op a b m ah2 (fun v ah3 => Tru w n fe v m ah3 Q X) X) X) X) : Ts w n fe (.Compare l [op] [r] p) m ah Q X := by
  intro c fr s hc hs Qc Ec hQ hE
  refine wpAny_isTrue_Compare1 (h c fr s hc hs _ _ (fun a a' m1 ah1 h1 tk1 q1 r1 s1 => ?_) hE) hb
  obtain ⟨rfl, q1⟩ := q1
  refine q1 c fr _ hc s1 _ _ (fun b b' m2 ah2 h2 tk2 q2 r2 s2 => ?_) fun e ah' h' tk' => hE e ah' h' tk'
  obtain ⟨rfl, q2⟩ := q2
  refine q2 _ _ r1 r2 c fr _ hc s2 _ _ (fun v v' m3 ah3 h3 tk3 q3 r3 s3 => ?_) fun e ah' h' tk' => hE e ah' h' tk'
  obtain ⟨rfl, q3⟩ := q3
  exact q3 _ r3 c fr _ hc s3 _ _ (fun v v' m3 ah3 h3 tk3 => hQ v v' m3 ah3 h3 tk3) fun e ah' h' tk' => hE e ah' h' tk'

theorem Ts.not {x : Expr} {p : Pos} {Q : Bool → AH → Prop} (h : Ts w n fe x m ah (fun b ah' => Q (!b) ah') X) : Ts w n fe (.UnaryOp .Not x p) m ah Q X := by
  intro c fr s hc hs Qc Ec hQ hE
  exact isTrue_not (h c fr s hc hs _ _ (fun b b' m1 ah1 h1 tk1 q1 r1 s1 => hQ (!b) (!b') m1 ah1 h1 tk1 q1 (by rw [r1]) s1) hE)
theorem Ts.and {x : Expr} {rest : List Expr} {p : Pos} {Q : Bool → AH → Prop} (h : Ts w n fe x m ah (fun b ah1 => if b then Ts w n fe (.BoolOp .And rest p) m ah1 Q X else Q false ah1) X) : Ts w n fe (.BoolOp .And (x :: rest) p) m ah Q X := by
  intro c fr s hc hs Qc Ec hQ hE
  refine isTrue_and (h c fr s hc hs _ _ (fun b b' m1 ah1 h1 tk1 q1 r1 s1 => ?_) hE)
  obtain ⟨rfl, q1⟩ := q1
  subst r1
  cases b' with
  | true => exact q1 c fr _ hc s1 _ _ (fun v v' m3 ah3 h3 tk3 => hQ v v' m3 ah3 h3 tk3) fun e ah' h' tk' => hE e ah' h' tk'
  | false => exact hQ false false _ ah1 h1 tk1 ⟨rfl, q1⟩ rfl s1
theorem Ts.andNil {p : Pos} {Q : Bool → AH → Prop} (h : Q true ah) : Ts w n fe (.BoolOp .And [] p) m ah Q X := by
  intro c fr s hc hs Qc Ec hQ hE
  exact isTrue_and_nil (hQ true true m ah s.heap s.toks ⟨rfl, h⟩ rfl hs)
theorem Ts.or {x : Expr} {rest : List Expr} {p : Pos} {Q : Bool → AH → Prop} (h : Ts w n fe x m ah (fun b ah1 => if b then Q true ah1 else Ts w n fe (.BoolOp .Or rest p) m ah1 Q X) X) : Ts w n fe (.BoolOp .Or (x :: rest) p) m ah Q X := by
  intro c fr s hc hs Qc Ec hQ hE
  refine isTrue_or (h c fr s hc hs _ _ (fun b b' m1 ah1 h1 tk1 q1 r1 s1 => ?_) hE)
  obtain ⟨rfl, q1⟩ := q1
  subst r1
  cases b' with
  | false => exact q1 c fr _ hc s1 _ _ (fun v v' m3 ah3 h3 tk3 => hQ v v' m3 ah3 h3 tk3) fun e ah' h' tk' => hE e ah' h' tk'
  | true => exact hQ true true _ ah1 h1 tk1 ⟨rfl, q1⟩ rfl s1
theorem Ts.orNil {p : Pos} {Q : Bool → AH → Prop} (h : Q false ah) : Ts w n fe (.BoolOp .Or [] p) m ah Q X := by
  intro c fr s hc hs Qc Ec hQ hE
  exact isTrue_or_nil (hQ false false m ah s.heap s.toks ⟨rfl, h⟩ rfl hs)
theorem Ts.value {e : Expr} {Q : Bool → AH → Prop} (h : Ev w n fe e m ah (fun v ah1 => Tru w n fe v m ah1 Q X) X)
    (he : ∀ env whole, isTrue e env whole = (do let v ← whole; standAt e.pos; holding [v] (truthy v)) := by intro _ _; rfl) : Ts w n fe e m ah Q X := by
  intro c fr s hc hs Qc Ec hQ hE
  refine isTrue_plain (h c fr s hc hs _ _ (fun v v' m1 ah1 h1 tk1 q1 r1 s1 => ?_) hE) (he _ _)
  obtain ⟨rfl, q1⟩ := q1
  exact q1 _ r1 c fr _ hc s1 _ _ (fun v v' m3 ah3 h3 tk3 => hQ v v' m3 ah3 h3 tk3) fun e ah' h' tk' => hE e ah' h' tk'

theorem Tru.bool {b : Bool} {Q : Bool → AH → Prop} (h : Q b ah) : Tru w n fe (.bool b) m ah Q X := by
  intro a' hr
  cases hr
  intro c fr s hc hs Qc Ec hQ hE
  exact wpAny_truthy_bool (hQ b b m ah s.heap s.toks ⟨rfl, h⟩ rfl hs)

theorem Ev.unop {x : Expr} {op : UnaryOp} {p : Pos} (h : Ev w n fe x m ah (fun a ah1 => Uop w n fe op a m ah1 Q X) X) : Ev w n fe (.UnaryOp op x p) m ah Q X := by
  intro c fr s hc hs Qc Ec hQ hE
  refine UnaryOp_ (h c fr s hc hs _ _ (fun v v' m1 ah1 h1 tk1 q1 r1 s1 => ?_) hE)
  obtain ⟨rfl, q1⟩ := q1
  exact q1 _ r1 c fr _ hc s1 _ _ (fun v v' m3 ah3 h3 tk3 => hQ v v' m3 ah3 h3 tk3) fun e ah' h' tk' => hE e ah' h' tk'
theorem Uop.not {a : AV} (h : Tru w n fe a m ah (fun b ah1 => Q (.bool (!b)) ah1) X) : Uop w n fe .Not a m ah Q X := by
  intro a' hr c fr s hc hs Qc Ec hQ hE
  refine not_of (h a' hr c fr s hc hs _ _ (fun v v' m1 ah1 h1 tk1 q1 r1 s1 => ?_) hE)
  obtain ⟨rfl, q1⟩ := q1
  subst r1
  exact hQ _ _ _ ah1 h1 tk1 ⟨rfl, q1⟩ (.bool _) s1

theorem Ev.ifexp {t b o : Expr} {p : Pos} (h : Ts w n fe t m ah (fun c ah1 => if c then Ev w n fe b m ah1 Q X else Ev w n fe o m ah1 Q X) X) : Ev w n fe (.IfExp t b o p) m ah Q X := by
  intro c fr s hc hs Qc Ec hQ hE
  refine IfExp_ (h c fr s hc hs _ _ (fun v v' m1 ah1 h1 tk1 q1 r1 s1 => ?_) hE)
  obtain ⟨rfl, q1⟩ := q1
  subst r1
  cases v' <;> exact q1 c fr _ hc s1 _ _ (fun v v' m3 ah3 h3 tk3 => hQ v v' m3 ah3 h3 tk3) fun e ah' h' tk' => hE e ah' h' tk'

theorem Ev.boolOne {e : Expr} {op : BoolOp} {p : Pos} (h : Ev w n fe e m ah Q X) : Ev w n fe (.BoolOp op [e] p) m ah Q X := by
  intro c fr s hc hs Qc Ec hQ hE
  exact BoolOp_one (h c fr s hc hs _ _ hQ hE)
theorem Ev.and {e₁ e₂ : Expr} {rest : List Expr} {p : Pos} (h : Ev w n fe e₁ m ah (fun v ah1 => Tru w n fe v m ah1 (fun c ah2 => if c then Ev w n fe (.BoolOp .And (e₂ :: rest) p) m ah2 Q X else Q v ah2) X) X) : Ev w n fe (.BoolOp .And (e₁ :: e₂ :: rest) p) m ah Q X := by
  intro c fr s hc hs Qc Ec hQ hE
  refine BoolOp_and (h c fr s hc hs _ _ (fun v v' m1 ah1 h1 tk1 q1 r1 s1 => ?_) hE)
  obtain ⟨rfl, q1⟩ := q1
  refine q1 _ r1 c fr _ hc s1 _ _ (fun b b' m2 ah2 h2 tk2 q2 r2 s2 => ?_) fun e ah' h' tk' => hE e ah' h' tk'
  obtain ⟨rfl, q2⟩ := q2
  subst r2
  cases b' with
  | true => exact q2 c fr _ hc s2 _ _ (fun v v' m3 ah3 h3 tk3 => hQ v v' m3 ah3 h3 tk3) fun e ah' h' tk' => hE e ah' h' tk'
  | false => exact hQ _ _ _ ah2 h2 tk2 ⟨rfl, q2⟩ r1 s2
theorem Ev.or {e₁ e₂ : Expr} {rest : List Expr} {p : Pos} (h : Ev w n fe e₁ m ah (fun v ah1 => Tru w n fe v m ah1 (fun c ah2 => if c then Q v ah2 else Ev w n fe (.BoolOp .Or (e₂ :: rest) p) m ah2 Q X) X) X) : Ev w n fe (.BoolOp .Or (e₁ :: e₂ :: rest) p) m ah Q X := by
  intro c fr s hc hs Qc Ec hQ hE
  refine BoolOp_or (h c fr s hc hs _ _ (fun v v' m1 ah1 h1 tk1 q1 r1 s1 => ?_) hE)
  obtain ⟨rfl, q1⟩ := q1
  refine q1 _ r1 c fr _ hc s1 _ _ (fun b b' m2 ah2 h2 tk2 q2 r2 s2 => ?_) fun e ah' h' tk' => hE e ah' h' tk'
  obtain ⟨rfl, q2⟩ := q2
  subst r2
  cases b' with
  | false => exact q2 c fr _ hc s2 _ _ (fun v v' m3 ah3 h3 tk3 => hQ v v' m3 ah3 h3 tk3) fun e ah' h' tk' => hE e ah' h' tk'
  | true => exact hQ _ _ _ ah2 h2 tk2 ⟨rfl, q2⟩ r1 s2

theorem Ev.attr {e : Expr} {x : Str} {p : Pos} (h : Ev w n fe e m ah (fun a ah1 => Gat w n fe a x m ah1 Q X) X)
    (he : ∀ env, eval (.Attribute e x p) env = (do
      let o ← eval e env
      standAt p.atName
      let r ← holding [o] (getAttr o x true)
      letTemporaryGo e o r
      pure r) := by intro _; with_unfolding_all rfl) : Ev w n fe (.Attribute e x p) m ah Q X := by
  intro c fr s hc hs Qc Ec hQ hE
  refine Attribute_any_ (h c fr s hc hs _ _ (fun v v' m1 ah1 h1 tk1 q1 r1 s1 => ?_) hE) (he _)
  obtain ⟨rfl, q1⟩ := q1
  exact q1 _ r1 c fr _ hc s1 _ _ (fun v v' m3 ah3 h3 tk3 => hQ v v' m3 ah3 h3 tk3) fun e ah' h' tk' => hE e ah' h' tk'

theorem Ev.subscript {v sl : Expr} {p : Pos} (h : Ev w n fe v m ah (fun a ah1 => Ev w n fe sl m ah1 (fun b ah2 => Sub w n fe v sl a b m ah2 Q X) X) X) : Ev w n fe (.Subscript v sl p) m ah Q X := by
  intro c fr s hc hs Qc Ec hQ hE
  refine Subscript_ (h c fr s hc hs _ _ (fun a a' m1 ah1 h1 tk1 q1 r1 s1 => ?_) hE)
  obtain ⟨rfl, q1⟩ := q1
  refine q1 c fr _ hc s1 _ _ (fun b b' m2 ah2 h2 tk2 q2 r2 s2 => ?_) fun e ah' h' tk' => hE e ah' h' tk'
  obtain ⟨rfl, q2⟩ := q2
  exact q2 _ _ r1 r2 c fr _ hc s2 _ _ (fun v v' m3 ah3 h3 tk3 => hQ v v' m3 ah3 h3 tk3) fun e ah' h' tk' => hE e ah' h' tk'

end

theorem split_news {news : List (Addr × Obj)} {k : Addr} {o : Obj} (nd : (news.map (·.1)).Nodup) (hm : (k, o) ∈ news) : ∃ pre post, news = pre ++ (k, o) :: post ∧ (∀ p ∈ pre, p.1 ≠ k) ∧ (∀ p ∈ post, p.1 ≠ k) := by
  obtain ⟨pre, post, rfl⟩ := List.append_of_mem hm
  rw [List.map_append, List.map_cons, List.nodup_append, List.nodup_cons] at nd
  obtain ⟨_, ⟨n2, _⟩, n3⟩ := nd
  refine ⟨pre, post, rfl, fun p hp e => ?_, fun p hp e => ?_⟩
  · exact n3 _ (List.mem_map_of_mem hp) _ List.mem_cons_self e
  · exact n2 (List.mem_map.mpr ⟨p, hp, e⟩)
theorem upd_of_split {k : Addr} {o o' : Obj} {post : List (Addr × Obj)} (h2 : ∀ p ∈ post, p.1 ≠ k) : ∀ {pre : List (Addr × Obj)}, (∀ p ∈ pre, p.1 ≠ k) → Upd k o o' (pre ++ (k, o) :: post) (pre ++ (k, o') :: post)
  | [], _ => .head h2
  | _ :: _, h1 => .tail (h1 _ List.mem_cons_self) (upd_of_split h2 fun p hp => h1 p (List.mem_cons_of_mem _ hp))

theorem mem_replace {pre post : List (Addr × Obj)} {k : Addr} {o o' : Obj} {p : Addr × Obj} (h : p ∈ pre ++ (k, o) :: post) (n : p.1 ≠ k) : p ∈ pre ++ (k, o') :: post := by
  rcases List.mem_append.mp h with h | h
  · exact List.mem_append_left _ h
  · rcases List.mem_cons.mp h with rfl | h
    · exact absurd rfl n
    · exact List.mem_append_right _ (List.mem_cons_of_mem _ h)

theorem RL.replace {base : Heap} {pre post : List (Addr × Obj)} {k : Addr} {o o' : Obj} {ow : Addr → Option Addr} {fr : List (Addr × Obj)} {fs : List (Env × (Str → Option Value))} {ah : AH} {a : Addr} {x : AO}
    (R : RL base (pre ++ (k, o) :: post) ow fr fs ah) (hk : ow k = some a) (hx : RO base (pre ++ (k, o') :: post) ow a x) : RL base (pre ++ (k, o') :: post) ow fr fs (ah.set a x) where
  nd := by have := R.nd; simpa using this
  obj := by
    intro b y e
    unfold AH.set at e
    by_cases q : b = a
    · subst q; rw [if_pos rfl] at e; cases e; exact hx
    · rw [if_neg q] at e
      refine (R.obj b y e).grow fun p hp hq => ⟨mem_replace hp fun z => ?_, hq⟩
      rw [z, hk] at hq; exact q (Option.some.inj hq).symm
  frm := fun p hp => ⟨mem_replace (R.frm p hp).1 fun z => (by have := (R.frm p hp).2; rw [z, hk] at this; cases this), (R.frm p hp).2⟩
  off := R.off
  fss := by
    intro y hy
    obtain ⟨L, o1, h1, h2, h3, h4⟩ := R.fss y hy
    exact ⟨L, o1, h1, mem_replace h2 fun z => (by rw [show L = k from z, hk] at h3; cases h3), h3, h4⟩

theorem RL.alloc {base : Heap} {news new : List (Addr × Obj)} {ow : Addr → Option Addr} {fr : List (Addr × Obj)} {fs : List (Env × (Str → Option Value))} {ah : AH} {a : Addr} {x : AO}
    (R : RL base news ow fr fs ah) (hn : ∀ p ∈ news, ∀ q ∈ new, p.1 ≠ q.1) (hnd : (new.map (·.1)).Nodup) (hx : RO base (new ++ news) (fun b => if b ∈ new.map (·.1) then some a else ow b) a x) :
    RL base (new ++ news) (fun b => if b ∈ new.map (·.1) then some a else ow b) fr fs (ah.set a x) where
  nd := by
    rw [List.map_append, List.nodup_append]
    refine ⟨hnd, R.nd, fun u hu v hv => ?_⟩
    obtain ⟨p, hp, rfl⟩ := List.mem_map.mp hu
    obtain ⟨q, hq, rfl⟩ := List.mem_map.mp hv
    exact (hn q hq p hp).symm
  obj := by
    intro b y e
    unfold AH.set at e
    by_cases q : b = a
    · subst q; rw [if_pos rfl] at e; cases e; exact hx
    · rw [if_neg q] at e
      refine (R.obj b y e).grow fun p hp hq => ⟨List.mem_append_right _ hp, ?_⟩
      rw [if_neg fun z => ?_]; exact hq
      obtain ⟨r, hr, e'⟩ := List.mem_map.mp z
      exact hn p hp r hr e'.symm
  frm := fun p hp => ⟨List.mem_append_right _ (R.frm p hp).1, (if_neg fun z => by
      obtain ⟨r, hr, e'⟩ := List.mem_map.mp z
      exact hn p (R.frm p hp).1 r hr e'.symm).trans (R.frm p hp).2⟩
  off := R.off
  fss := by
    intro y hy
    obtain ⟨L, o1, h1, h2, h3, h4⟩ := R.fss y hy
    exact ⟨L, o1, h1, List.mem_append_right _ h2, (if_neg fun z => by
      obtain ⟨r, hr, e'⟩ := List.mem_map.mp z
      exact hn _ h2 r hr e'.symm).trans h3, h4⟩

section
variable {c : Cx} {m : Loc} {fr : List (Addr × Obj)} {ah : AH} {s : Shared} {a : Addr}

theorem St.keeps (hs : St c m fr ah s) {h' : Heap} {tk : Nat} (hk : ∀ b o, s.heap.get? b = some o → h'.get? b = some o) : St c m fr ah { s with heap := h', toks := tk } := by
  obtain ⟨vm, news, ow, F, hm, N, R⟩ := hs
  exact ⟨vm, news, ow, F.keeps hk, hm, fun p hp => ⟨hk _ _ (N p hp).1, (N p hp).2⟩, R⟩
theorem St.toks (hs : St c m fr ah s) {tk : Nat} : St c m fr ah { s with toks := tk } := hs

theorem St.fresh (hs : St c m fr ah s) : ah s.heap.objs.size = none := by
  obtain ⟨vm, news, ow, F, hm, N, R⟩ := hs
  cases q : ah s.heap.objs.size with
  | none => rfl
  | some o =>
    have lt : ∀ {o}, (s.heap.objs.size, o) ∈ news → False := fun hp => Nat.lt_irrefl _ (Heap.lt_size (N _ hp).1)
    cases R.obj _ _ q with
    | list h1 _ _ => exact (lt h1).elim
    | tup h1 _ _ => exact (lt h1).elim
    | inst h1 _ _ _ _ => exact (lt h1).elim
    | scr h1 _ =>
      obtain ⟨o, ho, _⟩ := h1
      exact absurd (Heap.lt_size (F.keep _ _ ho)) (Nat.lt_irrefl _)

theorem St.alloc (hs : St c m fr ah s) {x : AO} {o : Obj} (ho : o.isFreed = false) (hx : ∀ news ow, (s.heap.objs.size, o) ∈ news → ow s.heap.objs.size = some s.heap.objs.size → RO c.base news ow s.heap.objs.size x) {tk : Nat} :
    St c m fr (ah.set s.heap.objs.size x) { s with heap := s.heap.push o, toks := tk } := by
  obtain ⟨vm, news, ow, F, hm, N, R⟩ := hs
  have lt : ∀ p ∈ news, p.1 < s.heap.objs.size := fun p hp => Heap.lt_size (N p hp).1
  refine ⟨vm, [(s.heap.objs.size, o)] ++ news, _, F.push o, hm, N.push F o ho, R.alloc (fun p hp q hq => ?_) (by simp) (hx _ _ (by simp) (by simp))⟩
  rw [List.mem_singleton.mp hq]; exact Nat.ne_of_lt (lt p hp)


theorem St.list (hs : St c m fr ah s) {vs : List AV} (e : ah a = some (.list vs)) : ∃ vs' n, s.heap.get? a = some (listOf vs'.toArray n) ∧ RVs vs vs' ∧
    ∀ h' tk vs2 vs2' n2, Heap.SameBut a s.heap h' → h'.get? a = some (listOf (List.toArray vs2') n2) → RVs vs2 vs2' → St c m fr (ah.set a (.list vs2)) { s with heap := h', toks := tk } := by
  obtain ⟨vm, news, ow, F, hm, N, R⟩ := hs
  cases R.obj a _ e with
  | @list _ vs' n h1 h2 h3 =>
    refine ⟨vs', n, (N _ h1).1, h3, fun h' tk vs2 vs2' n2 hsb hg hr => ?_⟩
    obtain ⟨pre, post, rfl, k1, k2⟩ := split_news R.nd h1
    refine ⟨vm, _, ow, F.change hsb (N _ h1).2.1 (N _ h1).2.2, hm, news_set N k1 k2 hsb hg, R.replace h2 (.list (List.mem_append_right _ List.mem_cons_self) h2 hr)⟩

theorem St.tup (hs : St c m fr ah s) {vs : List AV} (e : ah a = some (.tup vs)) : ∃ vs' n, s.heap.get? a = some (tupOf vs'.toArray n) ∧ RVs vs vs' := by
  obtain ⟨vm, news, ow, F, hm, N, R⟩ := hs
  cases R.obj a _ e with
  | tup h1 h2 h3 => exact ⟨_, _, (N _ h1).1, h3⟩
theorem St.scr (hs : St c m fr ah s) {ns : List Int} (e : ah a = some (.scr ns)) : ∃ vs', s.heap.IsList a (List.toArray vs') ∧ IntsAre vs' ns := by
  obtain ⟨vm, news, ow, F, hm, N, R⟩ := hs
  cases R.obj a _ e with
  | scr h1 h2 => exact ⟨_, h1.at (F.keep _), h2⟩
theorem St.inst (hs : St c m fr ah s) {C : Addr} {fs : List (Str × AV)} (e : ah a = some (.inst C fs)) : ∃ d es n, InstAt s.heap a (instObj C d) C (some (dictOf es n)) ∧ RFs fs es := by
  obtain ⟨vm, news, ow, F, hm, N, R⟩ := hs
  cases R.obj a _ e with
  | inst h1 h2 h3 h4 h5 => exact ⟨_, _, _, InstAt.of_news N h1 h2, h5⟩
end


structure Opn (c : Cx) (m : Loc) (fr : List (Addr × Obj)) (ah : AH) (s : Shared) (vm : Str → Option Value) (news : List (Addr × Obj)) (ow : Addr → Option Addr) : Prop where
  F : Fr c.base c.L s.heap vm
  hm : RM m vm
  N : News c.base c.L s.heap news
  R : RL c.base news ow fr c.fs ah

section
variable {c : Cx} {m : Loc} {fr : List (Addr × Obj)} {ah : AH} {s : Shared} {a : Addr} {vm : Str → Option Value} {news : List (Addr × Obj)} {ow : Addr → Option Addr}

theorem St.opn (h : St c m fr ah s) : ∃ vm news ow, Opn c m fr ah s vm news ow := let ⟨vm, news, ow, F, hm, N, R⟩ := h; ⟨vm, news, ow, F, hm, N, R⟩
theorem Opn.st (h : Opn c m fr ah s vm news ow) : St c m fr ah s := ⟨vm, news, ow, h.F, h.hm, h.N, h.R⟩
theorem Opn.same (h : Opn c m fr ah s vm news ow) {h' : Heap} {tk : Nat} (F : Fr c.base c.L h' vm) (N : News c.base c.L h' news) : St c m fr ah { s with heap := h', toks := tk } := ⟨vm, news, ow, F, h.hm, N, h.R⟩

theorem Opn.none_of (h : Opn c m fr ah s vm news ow) {D : Addr} (h1 : ∀ p ∈ news, p.1 ≠ D) (h2 : c.base.get? D = none) : ah D = none := by
  cases q : ah D with
  | none => rfl
  | some o =>
    cases h.R.obj _ _ q with
    | list h1' _ _ => exact absurd rfl (h1 _ h1')
    | tup h1' _ _ => exact absurd rfl (h1 _ h1')
    | inst h1' _ _ _ _ => exact absurd rfl (h1 _ h1')
    | scr h1' _ =>
      obtain ⟨o, ho, _⟩ := h1'
      rw [h2] at ho; cases ho


theorem Opn.new (h : Opn c m fr ah s vm news ow) {D : Addr} {o : Obj} {h' : Heap} {tk : Nat} {x : AO} (F : Fr c.base c.L h' vm) (N : News c.base c.L h' ((D, o) :: news)) (lt : ∀ p ∈ news, p.1 < D)
    (hx : ∀ news ow, (D, o) ∈ news → ow D = some D → RO c.base news ow D x) : ah D = none ∧ St c m fr (ah.set D x) { s with heap := h', toks := tk } := by
  refine ⟨h.none_of (fun p hp => Nat.ne_of_lt (lt p hp)) (N _ List.mem_cons_self).2.2, vm, [(D, o)] ++ news, _, F, h.hm, N, h.R.alloc (fun p hp q hq => ?_) (by simp) (hx _ _ (by simp) (by simp))⟩
  rw [List.mem_singleton.mp hq]; exact Nat.ne_of_lt (lt p hp)
theorem Opn.newList (h : Opn c m fr ah s vm news ow) {D : Addr} {vs' : List Value} {k : Nat} {h' : Heap} {tk : Nat} {vs : List AV} (F : Fr c.base c.L h' vm) (N : News c.base c.L h' ((D, listOf vs'.toArray k) :: news)) (lt : ∀ p ∈ news, p.1 < D)
    (hv : RVs vs vs') : ah D = none ∧ St c m fr (ah.set D (.list vs)) { s with heap := h', toks := tk } := h.new F N lt fun _ _ h1 h2 => .list h1 h2 hv
theorem Opn.newTup (h : Opn c m fr ah s vm news ow) {D : Addr} {vs' : List Value} {k : Nat} {h' : Heap} {tk : Nat} {vs : List AV} (F : Fr c.base c.L h' vm) (N : News c.base c.L h' ((D, tupOf vs'.toArray k) :: news)) (lt : ∀ p ∈ news, p.1 < D)
    (hv : RVs vs vs') : ah D = none ∧ St c m fr (ah.set D (.tup vs)) { s with heap := h', toks := tk } := h.new F N lt fun _ _ h1 h2 => .tup h1 h2 hv

theorem Opn.list (h : Opn c m fr ah s vm news ow) {vs : List AV} (e : ah a = some (.list vs)) : ∃ vs' n, (a, listOf vs'.toArray n) ∈ news ∧ RVs vs vs' ∧
    ∀ vs2 vs2' n2, RVs vs2 vs2' → ∃ news', Upd a (listOf vs'.toArray n) (listOf (List.toArray vs2') n2) news news' ∧ ∀ h' tk, Fr c.base c.L h' vm → News c.base c.L h' news' → St c m fr (ah.set a (.list vs2)) { s with heap := h', toks := tk } := by
  cases h.R.obj a _ e with
  | @list _ vs' n h1 h2 h3 =>
    refine ⟨vs', n, h1, h3, fun vs2 vs2' n2 hr => ?_⟩
    obtain ⟨pre, post, rfl, k1, k2⟩ := split_news h.R.nd h1
    exact ⟨_, upd_of_split k2 k1, fun h' tk F N => ⟨vm, _, ow, F, h.hm, N, h.R.replace h2 (.list (List.mem_append_right _ List.mem_cons_self) h2 hr)⟩⟩
theorem Opn.tup (h : Opn c m fr ah s vm news ow) {vs : List AV} (e : ah a = some (.tup vs)) : ∃ vs' n, (a, tupOf vs'.toArray n) ∈ news ∧ RVs vs vs' := by
  cases h.R.obj a _ e with
  | tup h1 h2 h3 => exact ⟨_, _, h1, h3⟩
theorem Opn.inst (h : Opn c m fr ah s vm news ow) {C : Addr} {fs : List (Str × AV)} (e : ah a = some (.inst C fs)) : ∃ d es n, InstAt s.heap a (instObj C d) C (some (dictOf es n)) ∧ RFs fs es ∧
    ∀ fs2 es2 n2, RFs fs2 es2 → ∃ news', Upd d (dictOf es n) (dictOf es2 n2) news news' ∧ ∀ h' tk, Fr c.base c.L h' vm → News c.base c.L h' news' → St c m fr (ah.set a (.inst C fs2)) { s with heap := h', toks := tk } := by
  cases h.R.obj a _ e with
  | @inst C d fs es n h1 h2 h3 h4 h5 =>
    refine ⟨d, es, n, InstAt.of_news h.N h1 h2, h5, fun fs2 es2 n2 hr => ?_⟩
    obtain ⟨pre, post, rfl, k1, k2⟩ := split_news h.R.nd h2
    refine ⟨_, upd_of_split k2 k1, fun h' tk F N => ⟨vm, _, ow, F, h.hm, N, h.R.replace h4 (.inst (mem_replace h1 ?_) (List.mem_append_right _ List.mem_cons_self) h3 h4 hr)⟩⟩
    intro q
    have g1 := (h.N _ h1).1
    have g2 := (h.N _ h2).1
    have q' : a = d := q
    rw [q', g2] at g1
    cases g1
theorem Opn.isList (h : Opn c m fr ah s vm news ow) {vs : List AV} (e : ah a = some (.list vs)) : ∃ vs', s.heap.IsList a (List.toArray vs') ∧ RVs vs vs' := by
  obtain ⟨vs', n, h1, h2, _⟩ := h.list e
  exact ⟨vs', ⟨_, (h.N _ h1).1, rfl, n, rfl⟩, h2⟩
theorem Opn.isTup (h : Opn c m fr ah s vm news ow) {vs : List AV} (e : ah a = some (.tup vs)) : ∃ vs', IsTup s.heap a (List.toArray vs') ∧ RVs vs vs' := by
  obtain ⟨vs', n, h1, h2⟩ := h.tup e
  exact ⟨vs', ⟨_, (h.N _ h1).1, rfl, n, rfl⟩, h2⟩
theorem Opn.scr (h : Opn c m fr ah s vm news ow) {ns : List Int} (e : ah a = some (.scr ns)) : ∃ vs', s.heap.IsList a (List.toArray vs') ∧ IntsAre vs' ns := by
  cases h.R.obj a _ e with
  | scr h1 h2 => exact ⟨_, h1.at (h.F.keep _), h2⟩
end


theorem RFs.length {fs : List (Str × AV)} {es : List DictEntry} (h : RFs fs es) : es.length = fs.length := by
  induction h with
  | nil => rfl
  | cons _ _ ih => simp [ih]
theorem str_beq_comm (x y : Str) : (x == y) = (y == x) := by
  by_cases h : x = y
  · subst h; rfl
  · rw [beq_eq_false_iff_ne.mpr h, beq_eq_false_iff_ne.mpr (Ne.symm h)]
theorem RFs.noRef {fs : List (Str × AV)} {es : List DictEntry} (h : RFs fs es) : es.any (·.refKey) = false := by
  induction h with
  | nil => rfl
  | cons _ _ ih => rw [List.any_cons, ih]; rfl
theorem RFs.find {fs : List (Str × AV)} {es : List DictEntry} (h : RFs fs es) {x : Str} : (∀ a, fs.lookup x = some a → ∃ v, getL x es = some (some v) ∧ RV a v) ∧ (fs.lookup x = none → getL x es = some none) := by
  have key : (∀ a, fs.lookup x = some a → ∃ e, es.find? (·.key.isStr x) = some e ∧ RV a e.val) ∧ (fs.lookup x = none → es.find? (·.key.isStr x) = none) := by
    induction h with
    | nil => exact ⟨fun a e => (by cases e), fun _ => rfl⟩
    | @cons y b v k t fs es h1 h2 ih =>
      refine ⟨fun a e => ?_, fun e => ?_⟩
      · rw [List.lookup_cons] at e
        rw [List.find?_cons]
        show ∃ e', (match (y == x) with | true => some _ | false => _) = some e' ∧ _
        rw [str_beq_comm y x]
        cases hq : (x == y) with
        | true => rw [hq] at e; cases e; exact ⟨_, rfl, h1⟩
        | false => rw [hq] at e; exact ih.1 a e
      · rw [List.lookup_cons] at e
        rw [List.find?_cons]
        show (match (y == x) with | true => some _ | false => _) = none
        rw [str_beq_comm y x]
        cases hq : (x == y) with
        | true => rw [hq] at e; cases e
        | false => rw [hq] at e; exact ih.2 e
  refine ⟨fun a e => ?_, fun e => ?_⟩
  · obtain ⟨en, h1, h2⟩ := key.1 a e
    exact ⟨en.val, by unfold getL; rw [h1], h2⟩
  · unfold getL; rw [key.2 e, h.noRef]; rfl
theorem RFs.some {fs : List (Str × AV)} {es : List DictEntry} (h : RFs fs es) (x : Str) : (getL x es).isSome = true := by
  cases q : fs.lookup x with
  | none => rw [h.find.2 q]; rfl
  | some a => obtain ⟨v, hv, _⟩ := h.find.1 a q; rw [hv]; rfl
noncomputable def putF (x : Str) (a : AV) : List (Str × AV) → List (Str × AV)
  | [] => [(x, a)]
  | (y, b) :: r => if y == x then (y, a) :: r else (y, b) :: putF x a r
theorem RFs.put {fs : List (Str × AV)} {es : List DictEntry} (h : RFs fs es) {x : Str} {k : Int} {t : Tok} {a : AV} {v : Value} (hv : RV a v) : RFs (putF x a fs) (putL x k (.str x t) v es) := by
  induction h with
  | nil => exact .cons hv .nil
  | @cons y b u k' t' fs es h1 h2 ih =>
    unfold putF putL
    show RFs _ (if (y == x) = true then _ else _)
    cases hq : (y == x) with
    | true => exact .cons hv h2
    | false => exact .cons h1 ih
theorem putF_length (x : Str) (a : AV) (fs : List (Str × AV)) : (putF x a fs).length ≤ fs.length + 1 := by
  induction fs with
  | nil => exact Nat.le_refl _
  | cons p r ih =>
    unfold putF
    split
    · simp
    · simpa using ih


structure GetOk (w : World) (C : Addr) (x : Str) : Prop where
  a : ∃ attr, plainGet (hd.heap_1 w.params) C x = true ∧ hasDictIn (hd.heap_1 w.params) C = true ∧ findIn (hd.heap_1 w.params) (.ref C) x = some attr ∧ noGet (hd.heap_1 w.params) attr = true
structure SetOk (w : World) (C : Addr) (x : Str) : Prop where
  s : findIn (hd.heap_1 w.params) (.ref C) "__setattr__" = some (some (.builtin "object.__setattr__"))
  p : plainOver (hd.heap_1 w.params) C = true
  t : takerIn (hd.heap_1 w.params) C x = some none
  d : hasDictIn (hd.heap_1 w.params) C = true
structure MethOk (w : World) (C : Addr) (x : Str) (f : Addr) : Prop where
  g : plainGet (hd.heap_1 w.params) C x = true
  m : findIn (hd.heap_1 w.params) (.ref C) x = some (some (.ref f))
  t : isFn (hd.heap_1 w.params) (.ref f) = true

theorem handed_of {a : AV} {v : Value} (h : RV a v) (n : ∀ i, v ≠ .builtin i) : handedIn v = true := by
  cases v <;> first | rfl | exact absurd rfl (n _)

noncomputable def AV.data : AV → Bool
  | .raw _ => false
  | _ => true
theorem RV.handed {a : AV} {v : Value} (h : RV a v) (hd : a.data = true) : handedIn v = true := by
  cases h <;> first | rfl | cases hd

section
variable {w : World} {n : Nat} {fe : FE} {m : Loc} {ah : AH} {X : AH → Prop} {Q : AV → AH → Prop}

theorem Gat.own {a C : Addr} {fs : List (Str × AV)} {x : Str} {v : AV} (e : ah a = some (.inst C fs)) (ok : GetOk w C x) (hl : fs.lookup x = some v) (hd : v.data = true) (h : Q v ah) : Gat w n fe (.ref a) x m ah Q X := by
  intro a' hr
  cases hr
  intro c fr s hc hs Qc Ec hQ hE
  obtain ⟨vm, news, ow, O⟩ := hs.opn
  obtain ⟨d, es, k, I, hf, _⟩ := O.inst e
  obtain ⟨attr, o1, o2, o3, o4⟩ := ok.a
  obtain ⟨v', hv, hr'⟩ := hf.find.1 v hl
  exact get_own O.F hc.K I o1 o2 o3 o4 hv (hr'.handed hd) (hQ v v' m ah s.heap (s.toks + 1) ⟨rfl, h⟩ hr' hs)


noncomputable def Sat (w : World) (n : Nat) (fe : FE) (a : AV) (x : Str) (v : AV) (m : Loc) (ah : AH) (Q : AH → Prop) (X : AH → Prop) : Prop :=
  ∀ a' v', RV a a' → RV v v' → Tr w (fun (_ : Unit) (_ : Unit) => True) n fe (fun _ => setAttr a' x v') m ah (fun _ m' ah' => m' = m ∧ Q ah') X
theorem Sat.own {a C : Addr} {fs : List (Str × AV)} {x : Str} {v : AV} {Q : AH → Prop} (e : ah a = some (.inst C fs)) (ok : SetOk w C x) (hz : fs.length ≤ 900) (h : Q (ah.set a (.inst C (putF x v fs)))) : Sat w n fe (.ref a) x v m ah Q X := by
  intro a' v' hr hv
  cases hr
  intro c fr s hc hs Qc Ec hQ hE
  obtain ⟨vm, news, ow, O⟩ := hs.opn
  obtain ⟨d, es, k, I, hf, up⟩ := O.inst e
  obtain ⟨news', U, fin⟩ := up (putF x v fs) (putL x (PyData.keyHash w.params x) (.str x (s.toks + 1)) v' es) (putN x es k) (hf.put hv)
  refine set_dict O.F hc.K O.N I rfl ok.s ok.p ok.t ok.d (hf.some x) rfl U ?_ fun h' F' N' => hQ () () m _ h' (s.toks + 2) ⟨rfl, h⟩ trivial (fin h' _ F' N')
  have := (hf.put hv (x := x) (k := PyData.keyHash w.params x) (t := s.toks + 1)).length
  rw [this]
  have := putF_length x v fs
  omega
end

section
variable {w : World} {n : Nat} {fe : FE} {m : Loc} {ah : AH} {X : AH → Prop} {Q : AV → AH → Prop}

theorem Cx.Ok.units {c : Cx} (hc : c.Ok w n fe) : (c.A fe).units ≤ 9003 := by
  have := hc.un
  show c.A₀.units + 3 ≤ 9003
  omega
theorem Cx.Ok.room {c : Cx} (hc : c.Ok w n fe) : (c.A fe).units + 64 < cLine := by
  have := hc.units; rw [cLine_is]; omega
theorem Cx.Ok.room1 {c : Cx} (hc : c.Ok w n fe) : (c.A fe).units < cLine := by
  have := hc.room; omega


theorem Bop.addi {x y : Int} (h : Q (.int (x + y)) ah) : Bop w n fe .Add (.int x) (.int y) m ah Q X := by
  intro a' b' ha hb; cases ha; cases hb
  intro c fr s hc hs Qc Ec hQ hE
  exact add_int (hQ _ _ m ah s.heap (s.toks + 1) ⟨rfl, h⟩ (.int _ _) hs)
theorem Bop.subi {x y : Int} (h : Q (.int (x - y)) ah) : Bop w n fe .Sub (.int x) (.int y) m ah Q X := by
  intro a' b' ha hb; cases ha; cases hb
  intro c fr s hc hs Qc Ec hQ hE
  exact sub_int (hQ _ _ m ah s.heap (s.toks + 1) ⟨rfl, h⟩ (.int _ _) hs)
theorem Bop.muli {x y : Int} (ok : IntMulOk x y) (h : Q (.int (x * y)) ah) : Bop w n fe .Mult (.int x) (.int y) m ah Q X := by
  intro a' b' ha hb; cases ha; cases hb
  intro c fr s hc hs Qc Ec hQ hE
  exact mul_int (hQ _ _ m ah s.heap (s.toks + 1) ⟨rfl, h⟩ (.int _ _) hs) ok
theorem Bop.modi {x y : Int} (ok : y ≠ 0) (h : Q (.int (x.fmod y)) ah) : Bop w n fe .Mod (.int x) (.int y) m ah Q X := by
  intro a' b' ha hb; cases ha; cases hb
  intro c fr s hc hs Qc Ec hQ hE
  exact mod_int' ok (hQ _ _ m ah s.heap (s.toks + 1) ⟨rfl, h⟩ (.int _ _) hs)
theorem Bop.divi {x y : Int} (ok : y ≠ 0) (hp : Builtin.divisionGoesByPylong x y = false) (h : Q (.int (x.fdiv y)) ah) : Bop w n fe .FloorDiv (.int x) (.int y) m ah Q X := by
  intro a' b' ha hb; cases ha; cases hb
  intro c fr s hc hs Qc Ec hQ hE
  exact floordiv_int ok (hQ _ _ m ah s.heap (s.toks + 1) ⟨rfl, h⟩ (.int _ _) hs) (.inl hp)
theorem Bop.powi {x y : Int} (ok : 0 ≤ y) (hp : (Builtin.Int.intBits x : Int) * y ≤ 2 ^ 27) (h : Q (.int (x ^ y.toNat)) ah) : Bop w n fe .Pow (.int x) (.int y) m ah Q X := by
  intro a' b' ha hb; cases ha; cases hb
  intro c fr s hc hs Qc Ec hQ hE
  exact pow_int ok hp (hQ _ _ m ah s.heap (s.toks + 1) ⟨rfl, h⟩ (.int _ _) hs)
theorem Iop.addi {x y : Int} (h : Q (.int (x + y)) ah) : Iop w n fe .Add (.int x) (.int y) m ah Q X := by
  intro a' b' ha hb; cases ha; cases hb
  intro c fr s hc hs Qc Ec hQ hE
  exact iadd_int (hQ _ _ m ah s.heap (s.toks + 1) ⟨rfl, h⟩ (.int _ _) hs)
theorem Uop.negi {x : Int} (h : Q (.int (-x)) ah) : Uop w n fe .USub (.int x) m ah Q X := by
  intro a' ha; cases ha
  intro c fr s hc hs Qc Ec hQ hE
  exact neg_int (hQ _ _ m ah s.heap (s.toks + 1) ⟨rfl, h⟩ (.int _ _) hs)


theorem Bop.adds {x y : Str} (ok : x.length + y.length ≤ sizeLine) (h : Q (.str (x ++ y)) ah) : Bop w n fe .Add (.str x) (.str y) m ah Q X := by
  intro a' b' ha hb; cases ha; cases hb
  intro c fr s hc hs Qc Ec hQ hE
  exact add_str (fun t' tk => hQ _ _ m ah s.heap tk ⟨rfl, h⟩ (.str _ _) hs) ok
theorem Bop.muls {x : Str} {y : Int} (ok : MulOk x y) (h : Q (.str (Txt.mul x y)) ah) : Bop w n fe .Mult (.str x) (.int y) m ah Q X := by
  intro a' b' ha hb; cases ha; cases hb
  intro c fr s hc hs Qc Ec hQ hE
  exact SB.mul ok (fun t' tk => hQ _ _ m ah s.heap tk ⟨rfl, h⟩ (.str _ _) hs)


theorem Cop.lti {x y : Int} (h : Q (.bool (decide (x < y))) ah) : Cop w n fe .Lt (.int x) (.int y) m ah Q X := by
  intro a' b' ha hb; cases ha; cases hb
  intro c fr s hc hs Qc Ec hQ hE
  exact lt_int (hQ _ _ m ah s.heap s.toks ⟨rfl, h⟩ (.bool _) hs)
theorem Cop.gti {x y : Int} (h : Q (.bool (decide (y < x))) ah) : Cop w n fe .Gt (.int x) (.int y) m ah Q X := by
  intro a' b' ha hb; cases ha; cases hb
  intro c fr s hc hs Qc Ec hQ hE
  exact gt_int (hQ _ _ m ah s.heap s.toks ⟨rfl, h⟩ (.bool _) hs)
theorem Cop.gei {x y : Int} (h : Q (.bool (decide (y ≤ x))) ah) : Cop w n fe .GtE (.int x) (.int y) m ah Q X := by
  intro a' b' ha hb; cases ha; cases hb
  intro c fr s hc hs Qc Ec hQ hE
  exact ge_int (hQ _ _ m ah s.heap s.toks ⟨rfl, h⟩ (.bool _) hs)
theorem Cop.eqi {x y : Int} (h : Q (.bool (x == y)) ah) : Cop w n fe .Eq (.int x) (.int y) m ah Q X := by
  intro a' b' ha hb; cases ha; cases hb
  intro c fr s hc hs Qc Ec hQ hE
  exact eq_int (hQ _ _ m ah s.heap s.toks ⟨rfl, h⟩ (.bool _) hs)
theorem Cop.nei {x y : Int} (h : Q (.bool (x != y)) ah) : Cop w n fe .NotEq (.int x) (.int y) m ah Q X := by
  intro a' b' ha hb; cases ha; cases hb
  intro c fr s hc hs Qc Ec hQ hE
  exact ne_int (hQ _ _ m ah s.heap s.toks ⟨rfl, h⟩ (.bool _) hs)
theorem Cop.eqs {x y : Str} (h : Q (.bool (x == y)) ah) : Cop w n fe .Eq (.str x) (.str y) m ah Q X := by
  intro a' b' ha hb; cases ha; cases hb
  intro c fr s hc hs Qc Ec hQ hE
  exact eq_str (hQ _ _ m ah s.heap s.toks ⟨rfl, h⟩ (.bool _) hs)
theorem Cop.nes {x y : Str} (h : Q (.bool (x != y)) ah) : Cop w n fe .NotEq (.str x) (.str y) m ah Q X := by
  intro a' b' ha hb; cases ha; cases hb
  intro c fr s hc hs Qc Ec hQ hE
  exact ne_str (hQ _ _ m ah s.heap s.toks ⟨rfl, h⟩ (.bool _) hs)
theorem Cop.eqns {y : Str} (h : Q (.bool false) ah) : Cop w n fe .Eq .none (.str y) m ah Q X := by
  intro a' b' ha hb; cases ha; cases hb
  intro c fr s hc hs Qc Ec hQ hE
  exact EqNone.eq_none_str (hQ _ _ m ah s.heap s.toks ⟨rfl, h⟩ (.bool _) hs)
theorem Cop.nenn (h : Q (.bool false) ah) : Cop w n fe .NotEq .none .none m ah Q X := by
  intro a' b' ha hb; cases ha; cases hb
  intro c fr s hc hs Qc Ec hQ hE
  exact EqNone.ne_none_none (hQ _ _ m ah s.heap s.toks ⟨rfl, h⟩ (.bool _) hs)
theorem Cop.isNone {a : AV} (ha : a.data = true) (h : Q (.bool (match a with | .none => true | _ => false)) ah) : Cop w n fe .Is a .none m ah Q X := by
  intro a' b' hr hb; cases hb
  intro c fr s hc hs Qc Ec hQ hE
  cases hr <;> first
    | exact wpAny_is_plain rfl (hQ _ _ m ah s.heap s.toks ⟨rfl, h⟩ (.bool _) hs)
    | exact wpAny_is_plain rfl (hQ (.bool false) _ m ah s.heap s.toks ⟨rfl, h⟩ (.bool _) hs)
    | cases ha
theorem Cop.isNotBool {x y : Bool} (h : Q (.bool (!(x == y))) ah) : Cop w n fe .IsNot (.bool x) (.bool y) m ah Q X := by
  intro a' b' ha hb; cases ha; cases hb
  intro c fr s hc hs Qc Ec hQ hE
  refine wpAny_isNot_plain rfl (hQ (.bool (!(x == y))) _ m ah s.heap s.toks ⟨rfl, h⟩ ?_ hs)
  have e : (Value.bool x == Value.bool y) = (x == y) := by cases x <;> cases y <;> rfl
  rw [e]; exact .bool _
theorem Cop.inStr {x y : Str} (h : Q (.bool (Txt.contains y x)) ah) : Cop w n fe .In (.str x) (.str y) m ah Q X := by
  intro a' b' ha hb; cases ha; cases hb
  intro c fr s hc hs Qc Ec hQ hE
  exact in_str (hQ _ _ m ah s.heap s.toks ⟨rfl, h⟩ (.bool _) hs)

theorem strsAre_of {ys : List Str} {vs : List Value} (h : RVs (ys.map AV.str) vs) : StrsAre vs ys := by
  induction ys generalizing vs with
  | nil => cases h; exact .nil
  | cons y ys ih => cases h with | cons h1 h2 => cases h1; exact .cons y _ (ih h2)
theorem intsAre_of {ys : List Int} {vs : List Value} (h : RVs (ys.map AV.int) vs) : IntsAre vs ys := by
  induction ys generalizing vs with
  | nil => cases h; exact .nil
  | cons y ys ih => cases h with | cons h1 h2 => cases h1; exact .cons y _ (ih h2)

theorem Cop.inTup {x : Str} {a : Addr} {ys : List Str} (e : ah a = some (.tup (ys.map AV.str))) (h : Q (.bool (ys.any (· == x))) ah) : Cop w n fe .In (.str x) (.ref a) m ah Q X := by
  intro a' b' ha hb; cases ha; cases hb
  intro c fr s hc hs Qc Ec hQ hE
  obtain ⟨vm, news, ow, O⟩ := hs.opn
  obtain ⟨vs', h1, h2⟩ := O.isTup e
  exact in_tuple_strs h1 (strsAre_of h2) (hQ _ _ m ah s.heap s.toks ⟨rfl, h⟩ (.bool _) hs)
theorem Cop.notInTup {x : Str} {a : Addr} {ys : List Str} (e : ah a = some (.tup (ys.map AV.str))) (h : Q (.bool (!ys.any (· == x))) ah) : Cop w n fe .NotIn (.str x) (.ref a) m ah Q X := by
  intro a' b' ha hb; cases ha; cases hb
  intro c fr s hc hs Qc Ec hQ hE
  obtain ⟨vm, news, ow, O⟩ := hs.opn
  obtain ⟨vs', h1, h2⟩ := O.isTup e
  exact notin_tuple_strs h1 (strsAre_of h2) (hQ _ _ m ah s.heap s.toks ⟨rfl, h⟩ (.bool _) hs)

theorem Cop.inK {x : Str} {a : Addr} {its : List Value} {dd : Option Addr} {sl : Array (Option Value)} {k : Nat} {ys : List Str} (hl : (hd.heap_1 w.params).lookup a = some ⟨.type "tuple", dd, .seq its.toArray k, sl⟩) (hy : StrsAre its ys) (h : Q (.bool (ys.any (· == x))) ah) : Cop w n fe .In (.str x) (.raw (.ref a)) m ah Q X := by
  intro a' b' ha hb; cases ha; cases hb
  intro c fr s hc hs Qc Ec hQ hE
  obtain ⟨vm, news, ow, O⟩ := hs.opn
  exact in_tuple_strs (tupK (hc.K.keeps O.F.keep) hl) hy (hQ _ _ m ah s.heap s.toks ⟨rfl, h⟩ (.bool _) hs)


theorem Cop.eqNil {a b : Addr} {vs : List AV} (e : ah a = some (.list vs)) (e2 : ah b = some (.list [])) (h : Q (.bool vs.isEmpty) ah) : Cop w n fe .Eq (.ref a) (.ref b) m ah Q X := by
  intro a' b' ha hb; cases ha; cases hb
  intro c fr s hc hs Qc Ec hQ hE
  obtain ⟨vm, news, ow, O⟩ := hs.opn
  obtain ⟨vs', h1, h2⟩ := O.isList e
  obtain ⟨us', k1, k2⟩ := O.isList e2
  cases k2
  have fin : ∀ v, v = vs.isEmpty → Qc (.bool v) s := by
    rintro v rfl
    exact hQ _ _ m ah s.heap s.toks ⟨rfl, h⟩ (.bool _) hs
  cases h2 with
  | nil => exact PySem.SeqAt.eq_listAt (e := fun _ => true) h1 k1 rfl hc.room1 (fun j h1 _ => absurd h1 (Nat.not_lt_zero _)) (fin _ rfl)
  | cons _ _ => exact PySem.SeqAt.eq_list_lengthsAt h1 k1 rfl hc.room1 (fin _ rfl)
theorem Cop.neNil {a b : Addr} {vs : List AV} (e : ah a = some (.list vs)) (e2 : ah b = some (.list [])) (h : Q (.bool (!vs.isEmpty)) ah) : Cop w n fe .NotEq (.ref a) (.ref b) m ah Q X := by
  intro a' b' ha hb; cases ha; cases hb
  intro c fr s hc hs Qc Ec hQ hE
  obtain ⟨vm, news, ow, O⟩ := hs.opn
  obtain ⟨vs', h1, h2⟩ := O.isList e
  obtain ⟨us', k1, k2⟩ := O.isList e2
  cases k2
  have fin : ∀ v, v = !vs.isEmpty → Qc (.bool v) s := by
    rintro v rfl
    exact hQ _ _ m ah s.heap s.toks ⟨rfl, h⟩ (.bool _) hs
  cases h2 with
  | nil => exact (PySem.SeqAt.RcNeAt.lists (e := fun _ => true) h1 k1 rfl hc.room1 (fun j h1 _ => absurd h1 (Nat.not_lt_zero _))) prog w Ec Qc (fin _ rfl)
  | cons _ _ => exact (PySem.SeqAt.RcNeAt.lists_lengths h1 k1 rfl hc.room1) prog w Ec Qc (fin _ rfl)
theorem Cop.eqInts {a b : Addr} {xs ys : List Int} (e : ah a = some (.list (xs.map AV.int))) (e2 : ah b = some (.list (ys.map AV.int))) (h : Q (.bool (decide (xs = ys))) ah) : Cop w n fe .Eq (.ref a) (.ref b) m ah Q X := by
  intro a' b' ha hb; cases ha; cases hb
  intro c fr s hc hs Qc Ec hQ hE
  obtain ⟨vm, news, ow, O⟩ := hs.opn
  obtain ⟨vs', h1, h2⟩ := O.isList e
  obtain ⟨us', k1, k2⟩ := O.isList e2
  exact eq_intsK h1 (intsAre_of h2) k1 (intsAre_of k2) hc.room (hQ _ _ m ah s.heap s.toks ⟨rfl, h⟩ (.bool _) hs)

end

theorem RVs.inv {a : AV} {as : List AV} {vs : List Value} (h : RVs (a :: as) vs) : ∃ v us, vs = v :: us ∧ RV a v ∧ RVs as us := by
  cases h with | cons h1 h2 => exact ⟨_, _, rfl, h1, h2⟩
theorem RVs.inv0 {vs : List Value} (h : RVs [] vs) : vs = [] := by cases h; rfl
theorem RVs.inv1 {a : AV} {vs : List Value} (h : RVs [a] vs) : ∃ v, vs = [v] ∧ RV a v := by
  obtain ⟨v, us, rfl, h1, h2⟩ := h.inv; obtain rfl := h2.inv0; exact ⟨v, rfl, h1⟩
theorem RVs.inv2 {a b : AV} {vs : List Value} (h : RVs [a, b] vs) : ∃ v u, vs = [v, u] ∧ RV a v ∧ RV b u := by
  obtain ⟨v, us, rfl, h1, h2⟩ := h.inv; obtain ⟨u, rfl, h3⟩ := h2.inv1; exact ⟨v, u, rfl, h1, h3⟩
theorem RVs.inv3 {a b c : AV} {vs : List Value} (h : RVs [a, b, c] vs) : ∃ v u t, vs = [v, u, t] ∧ RV a v ∧ RV b u ∧ RV c t := by
  obtain ⟨v, us, rfl, h1, h2⟩ := h.inv; obtain ⟨u, t, rfl, h3, h4⟩ := h2.inv2; exact ⟨v, u, t, rfl, h1, h3, h4⟩

section
variable {w : World} {n : Nat} {fe : FE} {m : Loc} {ah : AH} {X : AH → Prop} {Q : AV → AH → Prop}


noncomputable def SlOk (sl : Expr) : Prop := ∀ o i, subscripted sl false o i = operate [o, i] (getItem o i)

theorem seqIndex_nat {k : Int} {n j : Nat} (h : k = (j : Int)) (hj : j < n) : seqIndex? k n = some j := by
  subst h
  unfold seqIndex?
  have h1 : ¬ ((j : Int) < 0) := by omega
  simp [h1, hj]
theorem seqIndex_neg {k : Int} {n j : Nat} (h : k + (n : Int) = (j : Int)) (hk : k < 0) (hj : j < n) : seqIndex? k n = some j := by
  unfold seqIndex?
  rw [if_pos hk, h]
  simp [hj]

theorem Sub.list {v sl : Expr} {a : Addr} {vs : List AV} {k : Int} {x : AV} (e : ah a = some (.list vs)) (h0 : 0 ≤ k) (h63 : k < 2 ^ 63) (hx : vs[k.toNat]? = some x) (hs : SlOk sl) (h : Q x ah) : Sub w n fe v sl (.ref a) (.int k) m ah Q X := by
  intro a' b' ha hb; cases ha; cases hb
  intro c fr s hc hst Qc Ec hQ hE
  obtain ⟨vm, news, ow, O⟩ := hst.opn
  obtain ⟨vs', h1, h2⟩ := O.isList e
  obtain ⟨x', hx', hr⟩ := h2.get hx
  exact tail_any h1.typeIs slot_list_getitem.lookup (wpAny_getItem_list h1 h0 h63 (by simpa using hx') (hQ _ _ m ah s.heap s.toks ⟨rfl, h⟩ hr hst)) (hs _ _)
theorem Sub.last {v sl : Expr} {a : Addr} {vs : List AV} {x : AV} (e : ah a = some (.list vs)) (hx : vs.getLast? = some x) (hs : SlOk sl) (h : Q x ah) : Sub w n fe v sl (.ref a) (.int (-1)) m ah Q X := by
  intro a' b' ha hb; cases ha; cases hb
  intro c fr s hc hst Qc Ec hQ hE
  obtain ⟨vm, news, ow, O⟩ := hst.opn
  obtain ⟨vs', h1, h2⟩ := O.isList e
  rw [List.getLast?_eq_getElem?] at hx
  obtain ⟨x', hx', hr⟩ := h2.get hx
  have hl := h2.length
  have hp : 0 < vs.length := by
    cases vs with
    | nil => simp at hx
    | cons _ _ => simp
  exact tail_any h1.typeIs slot_list_getitem.lookup (wpAny_getItem_list_neg h1 (by decide) (by simp; omega) (by decide) (by
    have : ((-1 : Int) + (vs'.toArray.size : Int)).toNat = vs.length - 1 := by simp; omega
    rw [this]; simpa using hx') (hQ _ _ m ah s.heap s.toks ⟨rfl, h⟩ hr hst)) (hs _ _)
theorem Sub.tup {v sl : Expr} {a : Addr} {vs : List AV} {k : Int} {x : AV} (e : ah a = some (.tup vs)) (h0 : 0 ≤ k) (h63 : k < 2 ^ 63) (hx : vs[k.toNat]? = some x) (hs : SlOk sl) (h : Q x ah) : Sub w n fe v sl (.ref a) (.int k) m ah Q X := by
  intro a' b' ha hb; cases ha; cases hb
  intro c fr s hc hst Qc Ec hQ hE
  obtain ⟨vm, news, ow, O⟩ := hst.opn
  obtain ⟨vs', h1, h2⟩ := O.isTup e
  obtain ⟨x', hx', hr⟩ := h2.get hx
  have hlt : k.toNat < vs'.length := (List.getElem?_eq_some_iff.mp hx').1
  exact item_tupleT h1 (by omega) h63 (seqIndex_nat (by omega) hlt) hx' (hQ _ _ m ah s.heap s.toks ⟨rfl, h⟩ hr hst) (hs _ _)
theorem Sub.str {v sl : Expr} {x : Str} {k : Int} (h0 : 0 ≤ k) (h63 : k < 2 ^ 62) (hk : k < x.length) (hs : SlOk sl) (hlt : ∀ (t : Tok) (r : Value), letTemporaryGo v (.str x t) r = Pure.pure ()) (h : Q (.str (Txt.item x k)) ah) : Sub w n fe v sl (.str x) (.int k) m ah Q X := by
  intro a' b' ha hb; cases ha; cases hb
  intro c fr s hc hst Qc Ec hQ hE
  refine item_str ?_ (by omega) hk (fun _ => hQ _ _ m ah s.heap (s.toks + 1) ⟨rfl, h⟩ (.str _ _) hst) (hs _ _) (hlt _)
  unfold fitsSsize
  simp; omega

theorem Sub.scr {v sl : Expr} {a : Addr} {ns : List Int} {k : Int} {x : Int} (e : ah a = some (.scr ns)) (h0 : 0 ≤ k) (h63 : k < 2 ^ 63) (hx : ns[k.toNat]? = some x) (hs : SlOk sl) (h : Q (.int x) ah) : Sub w n fe v sl (.ref a) (.int k) m ah Q X := by
  intro a' b' ha hb; cases ha; cases hb
  intro c fr s hc hst Qc Ec hQ hE
  obtain ⟨vm, news, ow, O⟩ := hst.opn
  obtain ⟨vs', h1, h2⟩ := O.scr e
  have : ∃ t, vs'[k.toNat]? = some (Value.int x t) := by
    clear h1 hs h63 h0 e
    generalize k.toNat = j at hx
    induction h2 generalizing j with
    | nil => simp at hx
    | cons i t r ih =>
      cases j with
      | zero => simp at hx; exact ⟨t, by simp [hx]⟩
      | succ j => simp at hx ⊢; exact ih j hx
  obtain ⟨t, hx'⟩ := this
  exact tail_any h1.typeIs slot_list_getitem.lookup (wpAny_getItem_list h1 h0 h63 (by simpa using hx') (hQ _ _ m ah s.heap s.toks ⟨rfl, h⟩ (.int _ _) hst)) (hs _ _)


noncomputable def Sit (w : World) (n : Nat) (fe : FE) (a i v : AV) (m : Loc) (ah : AH) (Q : AH → Prop) (X : AH → Prop) : Prop :=
  ∀ a' i' v', RV a a' → RV i i' → RV v v' → Tr w (fun (_ : Unit) (_ : Unit) => True) n fe (fun _ => setItem a' i' v') m ah (fun _ m' ah' => m' = m ∧ Q ah') X
theorem Sit.list {a : Addr} {vs : List AV} {k : Int} {v : AV} {Q : AH → Prop} (e : ah a = some (.list vs)) (h0 : 0 ≤ k) (h63 : k < 2 ^ 63) (hk : k < vs.length) (h : Q (ah.set a (.list (vs.set k.toNat v)))) : Sit w n fe (.ref a) (.int k) v m ah Q X := by
  intro a' i' v' ha hi hv
  cases ha; cases hi
  intro c fr s hc hst Qc Ec hQ hE
  obtain ⟨vm, news, ow, O⟩ := hst.opn
  obtain ⟨vs', j, h1, h2, up⟩ := O.list e
  obtain ⟨news', U, fin⟩ := up (vs.set k.toNat v) (vs'.set k.toNat v') j (h2.set hv _)
  obtain ⟨pre, post, rfl, rfl, k1, k2⟩ := U.split
  have z := O.N _ h1
  have hl := h2.length
  refine ki_setAt z.1 h0 h63 (by simp; omega) (hQ () () m _ _ s.toks ⟨rfl, h⟩ trivial (fin _ _ (O.F.change (Heap.SameBut.update ..) z.2.1 z.2.2) (ki_turn _ O.N k1 k2 ?_ ?_)))
  · show vs'.toArray.setIfInBounds k.toNat v' = (vs'.set k.toNat v').toArray
    apply Array.toList_inj.mp
    simp
  · simp


theorem Fn.append {a : Addr} {vs : List AV} {v : AV} (e : ah a = some (.list vs)) (hz : vs.length ≤ 100000) (h : Q .none (ah.set a (.list (vs ++ [v])))) : Fn w n (.builtin "list.append") [.ref a, v] ah Q X := by
  intro fe m us hus
  obtain ⟨_, v', rfl, ha, hv⟩ := hus.inv2
  cases ha
  intro c fr s hc hst Qc Ec hQ hE
  obtain ⟨vm, news, ow, O⟩ := hst.opn
  obtain ⟨vs', j, h1, h2, up⟩ := O.list e
  obtain ⟨news', U, fin⟩ := up (vs ++ [v]) (vs' ++ [v']) (j + 1) (h2.append (.cons hv .nil))
  have hl := h2.length
  have e1 : (vs' ++ [v']).toArray = vs'.toArray.push v' := (List.push_toArray _ _).symm
  rw [e1] at U
  exact append_K O.F O.N U (fun h' F' N' => hQ _ _ m _ h' s.toks ⟨rfl, h⟩ .none (fin h' _ F' N')) (by rw [sizeLine_eq]; simp; omega)
theorem kl_last_append (y : Value) (p : List Value) : kl_last (p ++ [y]) = some (p, y) := kpa_last y p
theorem RVs.snoc {as : List AV} {a : AV} {vs : List Value} (h : RVs (as ++ [a]) vs) : ∃ us u, vs = us ++ [u] ∧ RVs as us ∧ RV a u := by
  induction as generalizing vs with
  | nil => cases h with | cons h1 h2 => cases h2; exact ⟨[], _, rfl, .nil, h1⟩
  | cons b bs ih =>
    cases h with
    | cons h1 h2 =>
      obtain ⟨us, u, rfl, k1, k2⟩ := ih h2
      exact ⟨_ :: us, u, rfl, .cons h1 k1, k2⟩
theorem Fn.pop {a : Addr} {vs : List AV} {v : AV} (e : ah a = some (.list (vs ++ [v]))) (hz : vs.length ≤ 100000) (h : Q v (ah.set a (.list vs))) : Fn w n (.builtin "list.pop") [.ref a] ah Q X := by
  intro fe m us hus
  obtain ⟨_, rfl, ha⟩ := hus.inv1
  cases ha
  intro c fr s hc hst Qc Ec hQ hE
  obtain ⟨vm, news, ow, O⟩ := hst.opn
  obtain ⟨vs', j, h1, h2, up⟩ := O.list e
  obtain ⟨us, u, rfl, k1, k2⟩ := h2.snoc
  obtain ⟨news', U, fin⟩ := up vs us (j + 1) k1
  have hl := k1.length
  exact kl_pop O.F O.N (by simpa using kpa_last u us) U (by rw [sizeLine_eq]; simp; omega) (fun h' F' N' => hQ _ _ m _ h' s.toks ⟨rfl, h⟩ k2 (fin h' _ F' N'))
theorem Fn.pop0 {a : Addr} {vs : List AV} {v : AV} (e : ah a = some (.list (v :: vs))) (hz : vs.length ≤ 100000) (h : Q v (ah.set a (.list vs))) : Fn w n (.builtin "list.pop") [.ref a, .int 0] ah Q X := by
  intro fe m us hus
  obtain ⟨_, _, rfl, ha, hi⟩ := hus.inv2
  cases ha; cases hi
  intro c fr s hc hst Qc Ec hQ hE
  obtain ⟨vm, news, ow, O⟩ := hst.opn
  obtain ⟨vs', j, h1, h2, up⟩ := O.list e
  cases h2 with
  | @cons _ u _ us k2 k1 =>
  obtain ⟨news', U, fin⟩ := up vs us (j + 1) k1
  have hl := k1.length
  exact kl_popAt (k := 0) (p := []) (q := us) O.F O.N (by decide) (seqIndex_nat rfl (by simp)) rfl U (by rw [sizeLine_eq]; simp; omega) (fun h' F' N' => hQ _ _ m _ h' s.toks ⟨rfl, h⟩ k2 (fin h' _ F' N'))
theorem Fn.insert0 {a : Addr} {vs : List AV} {v : AV} (e : ah a = some (.list vs)) (hz : vs.length ≤ 100000) (h : Q .none (ah.set a (.list (v :: vs)))) : Fn w n (.builtin "list.insert") [.ref a, .int 0, v] ah Q X := by
  intro fe m us hus
  obtain ⟨_, _, _, rfl, ha, hi, hv⟩ := hus.inv3
  cases ha; cases hi
  intro c fr s hc hst Qc Ec hQ hE
  obtain ⟨vm, news, ow, O⟩ := hst.opn
  obtain ⟨vs', j, h1, h2, up⟩ := O.list e
  obtain ⟨news', U, fin⟩ := up (v :: vs) (_ :: vs') (j + 1) (.cons hv h2)
  have hl := h2.length
  exact kl_insert O.F O.N (by decide) (by simp [kl_ins]) U (by rw [sizeLine_eq]; simp; omega) (fun h' F' N' => hQ _ _ m _ h' s.toks ⟨rfl, h⟩ .none (fin h' _ F' N'))


noncomputable abbrev Evs (w : World) (n : Nat) (fe : FE) (es : List Expr) (m : Loc) (ah : AH) (Q : List AV → AH → Prop) (X : AH → Prop) : Prop :=
  ∀ pos, Tr w RVs n fe (fun env => spliced (backTo pos (starEach es env))) m ah (fun vs m' ah' => m' = m ∧ Q vs ah') X
noncomputable def NoStar (e : Expr) : Prop := ∀ rest env, starEach (e :: rest) env = (false, eval e env) :: starEach rest env
theorem Evs.nil {Q : List AV → AH → Prop} (h : Q [] ah) : Evs w n fe [] m ah Q X := by
  intro pos c fr s hc hst Qc Ec hQ hE
  exact spliced_nil (hQ [] [] m ah s.heap s.toks ⟨rfl, h⟩ .nil hst)
theorem Evs.cons {e : Expr} {rest : List Expr} {Q : List AV → AH → Prop} (he : NoStar e) (h : Ev w n fe e m ah (fun v ah1 => Evs w n fe rest m ah1 (fun vs ah2 => Q (v :: vs) ah2) X) X) : Evs w n fe (e :: rest) m ah Q X := by
  intro pos c fr s hc hst Qc Ec hQ hE
  dsimp only
  rw [he]
  show wpAny _ _ (spliced ((false, eval e (c.env fe)) :: backTo pos (starEach rest (c.env fe)))) _ _ _
  refine spliced_cons (h c fr s hc hst _ _ (fun v v' m1 ah1 h1 tk1 q1 r1 s1 => ?_) hE)
  obtain ⟨rfl, q1⟩ := q1
  refine q1 pos c fr _ hc s1 _ _ (fun vs vs' m2 ah2 h2 tk2 q2 r2 s2 => ?_) fun e ah' h' tk' => hE e ah' h' tk'
  obtain ⟨rfl, q2⟩ := q2
  exact hQ _ _ _ ah2 h2 tk2 ⟨rfl, q2⟩ (.cons r1 r2) s2

theorem Ev.listD {es : List Expr} {p : Pos} (h : Evs w n fe es m ah (fun vs ah1 => vs.length ≤ 1000 ∧ ∀ a, ah1 a = .none → Q (.ref a) (ah1.set a (.list vs))) X) : Ev w n fe (.List es p) m ah Q X := by
  intro c fr s hc hst Qc Ec hQ hE
  refine List_ (h p c fr s hc hst _ _ (fun vs vs' m1 ah1 h1 tk1 q1 r1 s1 => ?_) hE)
  obtain ⟨rfl, hz, q1⟩ := q1
  obtain ⟨vm, news, ow, O⟩ := s1.opn
  have hl := r1.length
  refine newList_K O.F O.N (fun l h' F' N' lt => ?_) (by rw [sizeLine_eq]; omega)
  obtain ⟨g1, g2⟩ := O.newList (tk := tk1) F' N' lt r1
  exact hQ _ _ _ _ h' tk1 ⟨rfl, q1 l g1⟩ (.ref l) g2
theorem Ev.tupD {es : List Expr} {k : Nat} {p : Pos} (h : Evs w n fe es m ah (fun vs ah1 => vs.length ≤ 1000 ∧ ∀ a, ah1 a = .none → Q (.ref a) (ah1.set a (.tup vs))) X) : Ev w n fe (.Tuple es k p) m ah Q X := by
  intro c fr s hc hst Qc Ec hQ hE
  refine Tuple_ (h p c fr s hc hst _ _ (fun vs vs' m1 ah1 h1 tk1 q1 r1 s1 => ?_) hE)
  obtain ⟨rfl, hz, q1⟩ := q1
  obtain ⟨vm, news, ow, O⟩ := s1.opn
  have hl := r1.length
  refine newTuple_N O.F O.N (fun h' F' N' => ?_) (by rw [sizeLine_eq]; omega)
  obtain ⟨g1, g2⟩ := O.newTup (k := 0) (tk := tk1) F' N' (fun p hp => Heap.lt_size (O.N p hp).1) r1
  exact hQ _ _ _ _ h' tk1 ⟨rfl, q1 _ g1⟩ (.ref _) g2

end

section
variable {w : World} {n : Nat} {fe : FE} {m : Loc} {ah : AH} {X : AH → Prop} {Q : AV → AH → Prop}

theorem Cx.Ok.mono {c : Cx} {k : Nat} (hc : c.Ok w n fe) (h : k ≤ n) : c.Ok w k fe :=
  { hc with dep := (by have := hc.dep; omega), un := (by have := hc.un; omega) }
theorem Fn.mono {f : Value} {args : List AV} {k : Nat} (h : Fn w k f args ah Q X) (hk : k ≤ n) : Fn w n f args ah Q X := by
  intro fe m vs hvs c fr s hc hs Qc Ec hQ hE
  exact h fe m vs hvs c fr s (hc.mono hk) hs Qc Ec hQ hE


noncomputable def CallShape (func : Expr) (args : List Expr) (pos : Pos) : Prop := ∀ env, eval (.Call func args [] pos) env = (do callWith pos (← eval func env) [] (backTo pos (starEach args env)) (backToKw pos (keywordEach [] env)))
noncomputable def MethShape (o : Expr) (name : Str) (apos : Pos) (args : List Expr) (pos : Pos) (pl : Env → Sem Bool) : Prop := ∀ env, eval (.Call (.Attribute o name apos) args [] pos) env = (do
      let ov ← eval o env
      standAt apos.atName
      let (f, first) ← holding [ov] (getMethod ov name (pl env))
      callWith pos f first (backTo pos (starEach args env)) [])

theorem callWith_args {A : Around} {env : Env} {E : Value → Shared → Prop} {s : Shared} {pos : Pos} {f : Value} {first : List Value} {e : Expr} {rest : List Expr} {Q : Value → Shared → Prop} {P : Heap → Prop} (he : NoStar e) (hp : (backTo pos (starEach rest env)).any (·.1) = false)
    (hk : ∀ h, P h → ∃ k, (k = Keeper.frame ∨ k = Keeper.machine ∨ k = Keeper.boundFrame) ∧ Looks (model prog w) h (keeperOf f) k)
    (h : wpAny (model prog w) A (spliced (backTo pos (starEach (e :: rest) env))) (fun vs s₁ => P s₁.heap ∧ wpAny (model prog w) A (call f (first ++ vs)) Q E s₁) E s) : wpAny (model prog w) A (callWith pos f first (backTo pos (starEach (e :: rest) env)) []) Q E s := by
  rw [he] at h ⊢
  refine callWith_of ?_ hk (evalArgs_plain h)
  show ((false || (backTo pos (starEach rest env)).any (·.1)) || false) = false
  rw [hp]; rfl
theorem callWith_none {A : Around} {E : Value → Shared → Prop} {s : Shared} {pos : Pos} {f : Value} {first : List Value} {Q : Value → Shared → Prop} {P : Heap → Prop} {env : Env}
    (hk : ∀ h, P h → ∃ k, (k = Keeper.frame ∨ k = Keeper.machine ∨ k = Keeper.boundFrame) ∧ Looks (model prog w) h (keeperOf f) k)
    (h : P s.heap ∧ wpAny (model prog w) A (call f first) Q E s) : wpAny (model prog w) A (callWith pos f first (backTo pos (starEach [] env)) []) Q E s := by
  refine callWith_of rfl hk (evalArgs_nil3 ?_)
  show P s.heap ∧ wpAny (model prog w) A (call f (first ++ [])) Q E s
  rw [List.append_nil]; exact h


noncomputable def KeepOk (w : World) (f : Value) : Prop := (∃ a, f = .ref a ∧ keepIn (hd.heap_1 w.params) (.ref a) = true) ∨ (∃ id, f = .builtin id) ∨ ∃ T, f = .type T
theorem KeepOk.keeps {f : Value} (k : KeepOk w f) (h : Heap) (X : (hd.heap_1 w.params).In h) : ∃ k, (k = Keeper.frame ∨ k = Keeper.machine ∨ k = Keeper.boundFrame) ∧ Looks (model prog w) h (keeperOf f) k := by
  rcases k with ⟨a, rfl, k⟩ | ⟨id, rfl⟩ | ⟨T, rfl⟩
  · exact keeps_K k h X
  · exact ⟨.machine, .inr (.inl rfl), Looks.of_pure rfl⟩
  · exact ⟨.machine, .inr (.inl rfl), Looks.of_pure rfl⟩

noncomputable def NoStars (args : List Expr) : Prop := ∀ pos env, (backTo pos (starEach args env)).any (·.1) = false


noncomputable def IsFn (w : World) (v : AV) (f : Value) : Prop := v = .raw f ∧ KeepOk w f

theorem Ev.call0 {func : Expr} {pos : Pos} (hs : CallShape func [] pos) (h : Ev w n fe func m ah (fun v ah1 => ∃ f, IsFn w v f ∧ Fn w n f [] ah1 Q X) X) : Ev w n fe (.Call func [] [] pos) m ah Q X := by
  intro c fr s hc hst Qc Ec hQ hE
  refine Call_ (h c fr s hc hst _ _ (fun v v' m1 ah1 h1 tk1 q1 r1 s1 => ?_) hE) (hs _)
  obtain ⟨rfl, f, ⟨rfl, k⟩, q1⟩ := q1
  cases r1
  obtain ⟨vm, news, ow, O⟩ := s1.opn
  exact callWith_none (P := (hd.heap_1 w.params).In) k.keeps ⟨hc.K.keeps O.F.keep, q1 fe _ [] .nil c fr _ hc s1 _ _ (fun v v' m3 ah3 h3 tk3 => hQ v v' m3 ah3 h3 tk3) fun e ah' h' tk' => hE e ah' h' tk'⟩
theorem Ev.call {func e : Expr} {rest : List Expr} {pos : Pos} (hs : CallShape func (e :: rest) pos) (he : NoStar e) (hr : NoStars rest) (h : Ev w n fe func m ah (fun v ah1 => ∃ f, IsFn w v f ∧ Evs w n fe (e :: rest) m ah1 (fun vs ah2 => Fn w n f vs ah2 Q X) X) X) : Ev w n fe (.Call func (e :: rest) [] pos) m ah Q X := by
  intro c fr s hc hst Qc Ec hQ hE
  refine Call_ (h c fr s hc hst _ _ (fun v v' m1 ah1 h1 tk1 q1 r1 s1 => ?_) hE) (hs _)
  obtain ⟨rfl, f, ⟨rfl, k⟩, q1⟩ := q1
  cases r1
  refine callWith_args (P := (hd.heap_1 w.params).In) he (hr _ _) k.keeps (q1 pos c fr _ hc s1 _ _ (fun vs vs' m2 ah2 h2 tk2 q2 r2 s2 => ?_) fun e ah' h' tk' => hE e ah' h' tk')
  obtain ⟨rfl, q2⟩ := q2
  obtain ⟨vm, news, ow, O⟩ := s2.opn
  exact ⟨hc.K.keeps O.F.keep, q2 fe _ vs' r2 c fr _ hc s2 _ _ (fun v v' m3 ah3 h3 tk3 => hQ v v' m3 ah3 h3 tk3) fun e ah' h' tk' => hE e ah' h' tk'⟩


noncomputable def Meth (w : World) (ah : AH) (v : AV) (x : Str) (f : Value) : Prop :=
  (∃ a C fs g, v = .ref a ∧ ah a = some (.inst C fs) ∧ MethOk w C x g ∧ fs.lookup x = .none ∧ f = .ref g ∧ keepIn (hd.heap_1 w.params) (.ref g) = true) ∨
  (∃ a vs, v = .ref a ∧ ah a = some (.list vs) ∧ ((x = "append" ∧ f = .builtin "list.append") ∨ (x = "pop" ∧ f = .builtin "list.pop") ∨ (x = "insert" ∧ f = .builtin "list.insert"))) ∨
  (∃ t, v = .str t ∧ x = "join" ∧ f = .builtin "str.join")
theorem Meth.keep {v : AV} {x : Str} {f : Value} (h : Meth w ah v x f) : KeepOk w f := by
  rcases h with ⟨_, _, _, g, _, _, _, _, rfl, k⟩ | ⟨_, _, _, _, ⟨_, rfl⟩ | ⟨_, rfl⟩ | ⟨_, rfl⟩⟩ | ⟨_, _, _, rfl⟩
  · exact .inl ⟨g, rfl, k⟩
  · exact .inr (.inl ⟨_, rfl⟩)
  · exact .inr (.inl ⟨_, rfl⟩)
  · exact .inr (.inl ⟨_, rfl⟩)
  · exact .inr (.inl ⟨_, rfl⟩)
theorem Meth.get {v : AV} {v' : Value} {x : Str} {f : Value} {A : Around} {E : Value → Shared → Prop} {Q : Value × List Value → Shared → Prop} {pl : Sem Bool} {c : Cx} {fr : List (Addr × Obj)} {s : Shared} (h : Meth w ah v x f) (hr : RV v v') (hc : c.Ok w n fe) (hs : St c m fr ah s)
    (hQ : Q (f, [v']) s) : wpAny (model prog w) A (getMethod v' x pl) Q E s := by
  obtain ⟨vm, news, ow, O⟩ := hs.opn
  rcases h with ⟨a, C, fs, g, rfl, e, ok, hn, rfl, k⟩ | ⟨a, vs, rfl, e, h⟩ | ⟨t, rfl, rfl, rfl⟩
  · cases hr
    obtain ⟨d, es, j, I, hf, _⟩ := O.inst e
    exact method_inst O.F hc.K I ok.g ok.m ok.t (hf.find.2 hn) hQ
  · cases hr
    obtain ⟨vs', j, h1, h2, _⟩ := O.list e
    rcases h with ⟨rfl, rfl⟩ | ⟨rfl, rfl⟩ | ⟨rfl, rfl⟩
    · exact kl_method O.N h1 PySem.F.slot_list_append PySem.F.type_list_append hQ
    · exact kl_method O.N h1 PySem.F.slot_list_pop PySem.F.type_list_pop hQ
    · exact kl_method O.N h1 PySem.F.slot_list_insert PySem.F.type_list_insert hQ
  · cases hr
    exact PySem.GM.join hQ

theorem Ev.meth0 {o : Expr} {x : Str} {apos pos : Pos} {pl : Env → Sem Bool} (hs : MethShape o x apos [] pos pl) (h : Ev w n fe o m ah (fun v ah1 => ∃ f, Meth w ah1 v x f ∧ Fn w n f [v] ah1 Q X) X) : Ev w n fe (.Call (.Attribute o x apos) [] [] pos) m ah Q X := by
  intro c fr s hc hst Qc Ec hQ hE
  refine MethodCall_ (h c fr s hc hst _ _ (fun v v' m1 ah1 h1 tk1 q1 r1 s1 => ?_) hE) (hs _)
  obtain ⟨rfl, f, M, q1⟩ := q1
  refine M.get r1 hc s1 ?_
  obtain ⟨vm, news, ow, O⟩ := s1.opn
  exact callWith_none (P := (hd.heap_1 w.params).In) M.keep.keeps ⟨hc.K.keeps O.F.keep, q1 fe _ [v'] (.cons r1 .nil) c fr _ hc s1 _ _ (fun v v' m3 ah3 h3 tk3 => hQ v v' m3 ah3 h3 tk3) fun e ah' h' tk' => hE e ah' h' tk'⟩
theorem Ev.meth {o e : Expr} {rest : List Expr} {x : Str} {apos pos : Pos} {pl : Env → Sem Bool} (hs : MethShape o x apos (e :: rest) pos pl) (he : NoStar e) (hr : NoStars rest) (h : Ev w n fe o m ah (fun v ah1 => ∃ f, Meth w ah1 v x f ∧ Evs w n fe (e :: rest) m ah1 (fun vs ah2 => Fn w n f (v :: vs) ah2 Q X) X) X) : Ev w n fe (.Call (.Attribute o x apos) (e :: rest) [] pos) m ah Q X := by
  intro c fr s hc hst Qc Ec hQ hE
  refine MethodCall_ (h c fr s hc hst _ _ (fun v v' m1 ah1 h1 tk1 q1 r1 s1 => ?_) hE) (hs _)
  obtain ⟨rfl, f, M, q1⟩ := q1
  refine M.get r1 hc s1 ?_
  refine callWith_args (P := (hd.heap_1 w.params).In) he (hr _ _) M.keep.keeps (q1 pos c fr _ hc s1 _ _ (fun vs vs' m2 ah2 h2 tk2 q2 r2 s2 => ?_) fun e ah' h' tk' => hE e ah' h' tk')
  obtain ⟨rfl, q2⟩ := q2
  obtain ⟨vm, news, ow, O⟩ := s2.opn
  exact ⟨hc.K.keeps O.F.keep, q2 fe _ (v' :: vs') (.cons r1 r2) c fr _ hc s2 _ _ (fun v v' m3 ah3 h3 tk3 => hQ v v' m3 ah3 h3 tk3) fun e ah' h' tk' => hE e ah' h' tk'⟩


theorem Fn.lenStr {x : Str} (hz : x.length ≤ 100000) (h : Q (.int x.length) ah) : Fn w n (.builtin "len") [.str x] ah Q X := by
  intro fe m us hus
  obtain ⟨_, rfl, ha⟩ := hus.inv1
  cases ha
  intro c fr s hc hst Qc Ec hQ hE
  exact len_str (by omega) (hQ _ _ m ah s.heap (s.toks + 1 + 1) ⟨rfl, h⟩ (.int _ _) hst)
theorem Fn.lenList {a : Addr} {vs : List AV} (e : ah a = some (.list vs)) (hz : vs.length ≤ 100000) (h : Q (.int vs.length) ah) : Fn w n (.builtin "len") [.ref a] ah Q X := by
  intro fe m us hus
  obtain ⟨_, rfl, ha⟩ := hus.inv1
  cases ha
  intro c fr s hc hst Qc Ec hQ hE
  obtain ⟨vm, news, ow, O⟩ := hst.opn
  obtain ⟨vs', j, h1, h2, _⟩ := O.list e
  have hl := h2.length
  exact KM.len_K (n := vs.length) O.N h1 (by simpa using hl) (by omega) (hQ _ _ m ah s.heap (s.toks + 1 + 1) ⟨rfl, h⟩ (.int _ _) hst)
theorem Fn.min2 {x y : Int} (h : Q (.int (if y < x then y else x)) ah) : Fn w n (.builtin "min") [.int x, .int y] ah Q X := by
  intro fe m us hus
  obtain ⟨_, _, rfl, ha, hb⟩ := hus.inv2
  cases ha; cases hb
  intro c fr s hc hst Qc Ec hQ hE
  obtain ⟨vm, news, ow, O⟩ := hst.opn
  exact min_two_N (show (c.A fe).handled = none from hc.hh) O.F O.N fun h' tk F' N' => hQ _ _ m ah h' tk ⟨rfl, h⟩ (.int _ _) (O.same F' N')
theorem Fn.sum {a : Addr} {ns : List Int} (e : ah a = some (.list (ns.map AV.int))) (h : Q (.int ns.sum) ah) : Fn w n (.builtin "sum") [.ref a] ah Q X := by
  intro fe m us hus
  obtain ⟨_, rfl, ha⟩ := hus.inv1
  cases ha
  intro c fr s hc hst Qc Ec hQ hE
  obtain ⟨vm, news, ow, O⟩ := hst.opn
  obtain ⟨vs', h1, h2⟩ := O.isList e
  exact sumK (show (c.A fe).handled = none from hc.hh) O.F O.N h1 (intsAre_of h2) fun h' tk t' F' N' => hQ _ _ m ah h' tk ⟨rfl, h⟩ (.int _ _) (O.same F' N')
theorem Fn.listOf {a : Addr} {vs : List AV} (e : ah a = some (.list vs)) (hz : vs.length ≤ 100000) (h : ∀ b, ah b = .none → Q (.ref b) (ah.set b (.list vs))) : Fn w n (.type "list") [.ref a] ah Q X := by
  intro fe m us hus
  obtain ⟨_, rfl, ha⟩ := hus.inv1
  cases ha
  intro c fr s hc hst Qc Ec hQ hE
  obtain ⟨vm, news, ow, O⟩ := hst.opn
  obtain ⟨vs', h1, h2⟩ := O.isList e
  have hl := h2.length
  refine list_copyK O.F O.N h1 (fun D k h' F' N' lt => ?_) (by rw [sizeLine_eq]; simp; omega)
  obtain ⟨g1, g2⟩ := O.newList (tk := s.toks) F' N' lt h2
  exact hQ _ _ _ _ h' s.toks ⟨rfl, h D g1⟩ (.ref D) g2


theorem Fn.cls {name qual : Str} {params : Arguments} {body : List Stmt} {scope : Scope} {dV kV doc pm cdv ct oc : Value} {an od : Option Addr} {osl : Array (Option Value)} {C f : Addr} {args : List AV} {lb : Addr → List (Str × AV)}
    (hm : makesIn (hd.heap_1 w.params) C = true) (hi : findIn (hd.heap_1 w.params) (.ref C) "__init__" = some (some (.ref f))) (hf : typeIn (hd.heap_1 w.params) (.ref f) = some (.type "function"))
    (ho : (hd.heap_1 w.params).lookup f = some ⟨oc, od, .func (fnOf name qual params body scope dV kV doc pm an cdv ct), osl⟩) (hcd : codeIn (hd.heap_1 w.params) cdv qual = true)
    (hb : ∀ (x : Addr) (s : Shared) (vs : List Value), (hd.heap_1 w.params).In s.heap → RVs (.ref x :: args) vs → ∃ binds, BindsTo s (fnOf name qual params body scope dV kV doc pm an cdv ct) ⟨vs, []⟩ binds ∧ RBs (lb x) binds)
    (hloc : ∀ x, ∀ y ∈ lb x, scope.names.lookup y.1 = some .local)
    (hco : scope.isCoroutine = false) (hgen : scope.isGenerator = false) (hk : scope.kind = .function) (hcell : ∀ x ∈ scope.names, x.2 ≠ .cell)
    (h : ∀ x, ah x = .none → Ex w n ⟨qual, scope, cdv⟩ body (fun y => (lb x).reverse.lookup y) (ah.set x (.inst C [])) (fun fl _ ah' => fl.val = .none ∧ Q (.ref x) ah') X) : Fn w (n + 2) (.ref C) args ah Q X := by
  intro fe m vs hvs c fr s hc2 hs Qc Ec hQ hE
  have hc : c.Ok w (n + 1) fe := hc2.mono (by omega)
  obtain ⟨vm, news, ow, O⟩ := hs.opn
  refine wpAny_call (W.make_K O.F O.N (hc.K.keeps O.F.keep) hm hi hf fun x dx h' F' N' l1 l2 => ?_)
  have hx : ah x = .none := O.none_of (fun p hp => Nat.ne_of_lt (Nat.lt_trans (l1 p hp) l2)) (N' _ List.mem_cons_self).2.2
  have hst : St c m fr (ah.set x (.inst C [])) { s with heap := h' } := by
    refine ⟨vm, [(x, instObj C dx), (dx, emptyDict)] ++ news, _, F', O.hm, N', O.R.alloc (fun p hp q hq => ?_) ?_ (.inst (d := dx) (es := []) (n := 0) (by simp) (by simp) (by simp) (by simp) .nil)⟩
    · rcases List.mem_cons.mp hq with rfl | hq
      · exact Nat.ne_of_lt (Nat.lt_trans (l1 p hp) l2)
      · rw [List.mem_singleton.mp hq]; exact Nat.ne_of_lt (l1 p hp)
    · simp only [List.map_cons, List.map_nil, List.nodup_cons, List.mem_singleton, List.not_mem_nil, not_false_eq_true, List.nodup_nil, and_true]
      exact Nat.ne_of_gt l2
  refine code_of_def (Q := fun v ah' => v = .none ∧ Q (.ref x) ah') (X := X) (args := .ref x :: args) ho hcd (hb x) (hloc x) (h x hx) hco hgen hk hcell hc (A := (c.A fe).under (.builtin "type.__call__" ⟨.ref C :: vs, []⟩)) ?_ ?_ ?_ ?_ hst (.cons (.ref x) hvs) (fun v v' ah' h'' tk hq hv st => ?_) (fun e ah' h'' tk hx hr => ?_)
  · rfl
  · exact hc.hh
  · rw [depth_under_make]
    show c.A₀.depth + 1 + 1 + n ≤ 900
    have := hc2.dep; omega
  · show (c.A fe).units + _ + 20 * n ≤ 9000
    have h1 := hc2.un
    have h2 : (c.A fe).units = c.A₀.units + 3 := rfl
    have h3 : (Code.builtin "type.__call__" ⟨.ref C :: vs, []⟩).cUnits ≤ 20 := Nat.le_of_ble_eq_true rfl
    have h4 : (c.A fe).units + (Code.builtin "type.__call__" ⟨.ref C :: vs, []⟩).cUnits + 20 * n ≤ 9000 := by omega
    exact h4
  · obtain ⟨rfl, hq⟩ := hq
    cases hv
    exact ⟨rfl, hQ _ _ _ _ h'' tk ⟨rfl, hq⟩ (.ref x) st⟩
  · exact hE e ah' h'' tk hx hr
end

theorem RVs.reverse {as : List AV} {vs : List Value} (h : RVs as vs) : RVs as.reverse vs.reverse := by
  induction h with
  | nil => exact .nil
  | cons g1 _ ih => rw [List.reverse_cons, List.reverse_cons]; exact ih.append (.cons g1 .nil)

section
variable {w : World} {n : Nat} {fe : FE} {m : Loc} {ah : AH} {X : AH → Prop} {Q : AF → Loc → AH → Prop}

theorem Ex.nil (h : Q .next m ah) : Ex w n fe [] m ah Q X := by
  intro c fr s hc hst Qc Ec hQ hE
  exact wpAny_execs_nil (hQ _ _ m ah s.heap s.toks h .next hst)
theorem Ex.cons {st : Stmt} {rest : List Stmt} (h : Ex1 w n fe st m ah (fun fl m1 ah1 => match fl with | .next => Ex w n fe rest m1 ah1 Q X | fl => Q fl m1 ah1) X) : Ex w n fe (st :: rest) m ah Q X := by
  intro c fr s hc hst Qc Ec hQ hE
  refine wpAny_execs_cons (h c fr s hc hst _ _ (fun fl fl' m1 ah1 h1 tk1 q1 r1 s1 => ?_) hE)
  cases r1 with
  | next => exact q1 c fr _ hc s1 _ _ (fun v v' m3 ah3 h3 tk3 => hQ v v' m3 ah3 h3 tk3) fun e ah' h' tk' => hE e ah' h' tk'
  | brk => exact hQ _ _ _ _ h1 tk1 q1 .brk s1
  | cont => exact hQ _ _ _ _ h1 tk1 q1 .cont s1
  | ret hv => exact hQ _ _ _ _ h1 tk1 q1 (.ret hv) s1

theorem Opn.store {c : Cx} {fr : List (Addr × Obj)} {s : Shared} {vm : Str → Option Value} {news : List (Addr × Obj)} {ow : Addr → Option Addr} (O : Opn c m fr ah s vm news ow) {x : Str} {a : AV} {v : Value} (hv : RV a v) {h' : Heap} {tk : Nat}
    (F : Fr c.base c.L h' (fun y => if y = x then some v else vm y)) (N : News c.base c.L h' news) : St c (m.put x a) fr ah { s with heap := h', toks := tk } := ⟨_, news, ow, F, O.hm.put hv, N, O.R⟩

theorem Ex1.assignName {x : Str} {p p' : Pos} {value : Expr} (hs : ∀ env, swapsWith value (some (.Name x p')) p.line env = Pure.pure false) (hl : fe.cs.names.lookup x = some .local)
    (h : Ev w n fe value m ah (fun v ah1 => Q .next (m.put x v) ah1) X) : Ex1 w n fe (.Assign [.Name x p'] value p) m ah Q X := by
  intro c fr s hc hst Qc Ec hQ hE
  refine wpAny_Assign_Name (h c fr s hc hst _ _ (fun v v' m1 ah1 h1 tk1 q1 r1 s1 => ?_) hE) (hs _)
  obtain ⟨rfl, q1⟩ := q1
  obtain ⟨vm, news, ow, O⟩ := s1.opn
  exact stN O.F O.N (fun h' F' N' => hQ _ _ _ ah1 h' (tk1 + 1) q1 .next (O.store r1 F' N')) hc.hk hl
theorem Ex1.assignAttr {o : Expr} {x : Str} {p p' : Pos} {value : Expr} (hs : ∀ env, swapsWith value (some (.Attribute o x p')) p.line env = Pure.pure false)
    (h : Ev w n fe value m ah (fun v ah1 => Ev w n fe o m ah1 (fun a ah2 => Sat w n fe a x v m ah2 (fun ah3 => Q .next m ah3) X) X) X) : Ex1 w n fe (.Assign [.Attribute o x p'] value p) m ah Q X := by
  intro c fr s hc hst Qc Ec hQ hE
  refine plainObj_wpAny_Assign_Attribute (h c fr s hc hst _ _ (fun v v' m1 ah1 h1 tk1 q1 r1 s1 => ?_) hE) (hs _)
  obtain ⟨rfl, q1⟩ := q1
  refine q1 c fr _ hc s1 _ _ (fun a a' m2 ah2 h2 tk2 q2 r2 s2 => ?_) fun e ah' h' tk' => hE e ah' h' tk'
  obtain ⟨rfl, q2⟩ := q2
  refine q2 _ _ r2 r1 c fr _ hc s2 _ _ (fun u u' m3 ah3 h3 tk3 q3 r3 s3 => ?_) fun e ah' h' tk' => hE e ah' h' tk'
  obtain ⟨rfl, q3⟩ := q3
  exact hQ _ _ _ _ h3 tk3 q3 .next s3
theorem Ex1.assignSub {o i : Expr} {p p' : Pos} {value : Expr} (hs : ∀ env, swapsWith value (some (.Subscript o i p')) p.line env = Pure.pure false)
    (h : Ev w n fe value m ah (fun v ah1 => Ev w n fe o m ah1 (fun a ah2 => Ev w n fe i m ah2 (fun k ah3 => Sit w n fe a k v m ah3 (fun ah4 => Q .next m ah4) X) X) X) X) : Ex1 w n fe (.Assign [.Subscript o i p'] value p) m ah Q X := by
  intro c fr s hc hst Qc Ec hQ hE
  refine wpAny_Assign_Subscript (h c fr s hc hst _ _ (fun v v' m1 ah1 h1 tk1 q1 r1 s1 => ?_) hE) (hs _)
  obtain ⟨rfl, q1⟩ := q1
  refine q1 c fr _ hc s1 _ _ (fun a a' m2 ah2 h2 tk2 q2 r2 s2 => ?_) fun e ah' h' tk' => hE e ah' h' tk'
  obtain ⟨rfl, q2⟩ := q2
  refine q2 c fr _ hc s2 _ _ (fun k k' m3 ah3 h3 tk3 q3 r3 s3 => ?_) fun e ah' h' tk' => hE e ah' h' tk'
  obtain ⟨rfl, q3⟩ := q3
  refine q3 _ _ _ r2 r3 r1 c fr _ hc s3 _ _ (fun u u' m4 ah4 h4 tk4 q4 r4 s4 => ?_) fun e ah' h' tk' => hE e ah' h' tk'
  obtain ⟨rfl, q4⟩ := q4
  exact hQ _ _ _ _ h4 tk4 q4 .next s4


theorem As.name {x : Str} {p : Pos} {v : AV} {Q : Loc → AH → Prop} (hl : fe.cs.names.lookup x = some .local) (h : Q (m.put x v) ah) : As w n fe (.Name x p) v m ah Q X := by
  intro v' hr c fr s hc hst Qc Ec hQ hE
  obtain ⟨vm, news, ow, O⟩ := hst.opn
  exact wpAny_assign_Name (stN O.F O.N (fun h' F' N' => hQ () () _ ah h' (s.toks + 1) h trivial (O.store hr F' N')) hc.hk hl)
noncomputable abbrev AsL (w : World) (n : Nat) (fe : FE) (es : List Expr) (vs : List AV) (m : Loc) (ah : AH) (Q : Loc → AH → Prop) (X : AH → Prop) : Prop :=
  ∀ vs', RVs vs vs' → Tr w (fun (_ : Unit) (_ : Unit) => True) n fe (fun env => assignInOrder ((assignEach es env).map (·.2)) vs') m ah (fun _ => Q) X
theorem AsL.nil {Q : Loc → AH → Prop} (h : Q m ah) : AsL w n fe [] [] m ah Q X := by
  intro v' hr c fr s hc hst Qc Ec hQ hE
  exact assignInOrder_nil (hQ () () m ah s.heap s.toks h trivial hst)
theorem AsL.cons {e : Expr} {es : List Expr} {v : AV} {vs : List AV} {Q : Loc → AH → Prop} (he : ∀ env, assignEach (e :: es) env = (false, assign e env) :: assignEach es env)
    (h : As w n fe e v m ah (fun m1 ah1 => AsL w n fe es vs m1 ah1 Q X) X) : AsL w n fe (e :: es) (v :: vs) m ah Q X := by
  intro v' hr c fr s hc hst Qc Ec hQ hE
  obtain ⟨u, us, rfl, h1, h2⟩ := hr.inv
  dsimp only
  rw [he]
  refine assignInOrder_cons (h u h1 c fr s hc hst _ _ (fun _ _ m1 ah1 k1 tk1 q1 _ s1 => ?_) hE)
  exact q1 us h2 c fr _ hc s1 _ _ (fun v v' m3 ah3 h3 tk3 => hQ v v' m3 ah3 h3 tk3) fun e ah' h' tk' => hE e ah' h' tk'
noncomputable def Plain (es : List Expr) (k : Nat) : Prop := ∀ env, (assignEach es env).length = k ∧ (assignEach es env).findIdx? (·.1) = none
theorem As.tup {es : List Expr} {k : Nat} {p : Pos} {a : Addr} {vs : List AV} {Q : Loc → AH → Prop} (e : ah a = some (.tup vs)) (hp : Plain es vs.length) (h : AsL w n fe es vs m ah Q X) : As w n fe (.Tuple es k p) (.ref a) m ah Q X := by
  intro v' hr c fr s hc hst Qc Ec hQ hE
  cases hr
  obtain ⟨vm, news, ow, O⟩ := hst.opn
  obtain ⟨vs', h1, h2⟩ := O.isTup e
  have hl := h2.length
  refine unpackN_ O.F O.N h1 (show (c.A fe).handled = none from hc.hh) (by rw [(hp _).1]; simpa using hl.symm) (hp _).2 fun h' F' N' => ?_
  exact h vs' h2 c fr _ hc (O.same (tk := s.toks) F' N') _ _ (fun v v' m3 ah3 h3 tk3 => hQ v v' m3 ah3 h3 tk3) fun e ah' h' tk' => hE e ah' h' tk'
theorem Ex1.assignTup {es : List Expr} {k : Nat} {p p' : Pos} {value : Expr} (hs : ∀ env, swapsWithSole [.Tuple es k p'] value p.line env = Pure.pure false) (hw : ∀ env, swappedStores [.Tuple es k p'] value env = Pure.pure none)
    (h : Ev w n fe value m ah (fun v ah1 => As w n fe (.Tuple es k p') v m ah1 (fun m2 ah2 => Q .next m2 ah2) X) X) : Ex1 w n fe (.Assign [.Tuple es k p'] value p) m ah Q X := by
  intro c fr s hc hst Qc Ec hQ hE
  refine Assign_Tuple (h c fr s hc hst _ _ (fun v v' m1 ah1 h1 tk1 q1 r1 s1 => ?_) hE) (hs _) (hw _)
  obtain ⟨rfl, q1⟩ := q1
  exact q1 _ r1 c fr _ hc s1 _ _ (fun _ _ m3 ah3 h3 tk3 q3 _ s3 => hQ _ _ _ _ h3 tk3 q3 .next s3) fun e ah' h' tk' => hE e ah' h' tk'
noncomputable def Loc.puts (m : Loc) : List Str → List AV → Loc
  | x :: xs, v :: vs => (m.put x v).puts xs vs
  | _, _ => m
theorem bind_all {xs : List Str} (hl : ∀ x ∈ xs, fe.cs.names.lookup x = some .local) : ∀ {m : Loc} {vs : List AV} {vs' : List Value}, RVs vs vs' → ∀ {Q : Loc → AH → Prop}, Q (m.puts xs vs) ah → Tr w (fun (_ : Unit) (_ : Unit) => True) n fe (fun env => assignInOrder (xs.map fun x => bindName env x) vs') m ah (fun _ => Q) X := by
  induction xs with
  | nil =>
    intro m vs vs' hr Q h c fr s hc hst Qc Ec hQ hE
    exact assignInOrder_nil (hQ () () m ah s.heap s.toks h trivial hst)
  | cons x xs ih =>
    intro m vs vs' hr Q h c fr s hc hst Qc Ec hQ hE
    cases hr with
    | nil => exact wpAny_pure (hQ () () m ah s.heap s.toks h trivial hst)
    | @cons v v' vs vs' h1 h2 =>
      obtain ⟨vm, news, ow, O⟩ := hst.opn
      refine assignInOrder_cons (wpAny_bindName (stN O.F O.N (fun h' F' N' => ?_) hc.hk (hl x List.mem_cons_self)))
      exact ih (fun y hy => hl y (List.mem_cons_of_mem _ hy)) h2 h c fr _ hc (O.store (tk := s.toks + 1) h1 F' N') _ _ (fun v v' m3 ah3 h3 tk3 => hQ v v' m3 ah3 h3 tk3) fun e ah' h' tk' => hE e ah' h' tk'
theorem Ex1.assignSwapped {es : List Expr} {k : Nat} {p p' : Pos} {value : Expr} {xs : List Str} (hs : ∀ env, swapsWithSole [.Tuple es k p'] value p.line env = Pure.pure false) (hw : ∀ L a, swappedStores [.Tuple es k p'] value (envOf fe.cn fe.cs L a fe.cd) = Pure.pure (some xs)) (hl : ∀ x ∈ xs.reverse, fe.cs.names.lookup x = some .local)
    (h : Ev w n fe value m ah (fun v ah1 => ∃ a vs, v = .ref a ∧ ah1 a = some (.tup vs) ∧ vs.length = xs.length ∧ Q .next (m.puts xs.reverse vs.reverse) ah1) X) : Ex1 w n fe (.Assign [.Tuple es k p'] value p) m ah Q X := by
  intro c fr s hc hst Qc Ec hQ hE
  refine Assign_Tuple_swapped (names := xs) (h c fr s hc hst _ _ (fun v v' m1 ah1 h1 tk1 q1 r1 s1 => ?_) hE) (hs _) (hw _ _)
  obtain ⟨rfl, a, vs, rfl, e, hz, q1⟩ := q1
  cases r1
  obtain ⟨vm, news, ow, O⟩ := s1.opn
  obtain ⟨vs', k1, k2⟩ := O.isTup e
  have hl' := k2.length
  refine unpackItemsN_ O.F O.N k1 (show (c.A fe).handled = none from hc.hh) (by simp; omega) fun h' F' N' => ?_
  exact bind_all (X := X) hl k2.reverse (Q := fun m2 ah2 => Q .next m2 ah2) q1 c fr _ hc (O.same (tk := tk1) F' N') _ _ (fun _ _ m3 ah3 h3 tk3 q3 _ s3 => hQ _ _ _ _ h3 tk3 q3 .next s3) fun e ah' h' tk' => hE e ah' h' tk'

theorem Ex1.augName {x : Str} {p p' : Pos} {op : Operator} {value : Expr} {v0 : AV} (hm : m x = some v0) (hl : fe.cs.names.lookup x = some .local)
    (h : Ev w n fe value m ah (fun v ah1 => Iop w n fe op v0 v m ah1 (fun r ah2 => Q .next (m.put x r) ah2) X) X) : Ex1 w n fe (.AugAssign (.Name x p') op value p) m ah Q X := by
  intro c fr s hc hst Qc Ec hQ hE
  obtain ⟨vm, news, ow, O⟩ := hst.opn
  obtain ⟨v0', hv0, hr0⟩ := O.hm x v0 hm
  refine wpAny_AugAssign_Name (ldn O.F hv0 (h c fr s hc hst _ _ (fun v v' m1 ah1 h1 tk1 q1 r1 s1 => ?_) hE) hc.hk hl)
  obtain ⟨rfl, q1⟩ := q1
  refine q1 _ _ hr0 r1 c fr _ hc s1 _ _ (fun a a' m2 ah2 h2 tk2 q2 r2 s2 => ?_) fun e ah' h' tk' => hE e ah' h' tk'
  obtain ⟨rfl, q2⟩ := q2
  obtain ⟨vm, news, ow, O⟩ := s2.opn
  exact stN O.F O.N (fun h' F' N' => hQ _ _ _ ah2 h' (tk2 + 1) q2 .next (O.store r2 F' N')) hc.hk hl
theorem Ex1.augAttr {o : Expr} {x : Str} {p p' : Pos} {op : Operator} {value : Expr}
    (h : Ev w n fe o m ah (fun a ah1 => Gat w n fe a x m ah1 (fun v0 ah2 => Ev w n fe value m ah2 (fun v ah3 => Iop w n fe op v0 v m ah3 (fun r ah4 => Sat w n fe a x r m ah4 (fun ah5 => Q .next m ah5) X) X) X) X) X) : Ex1 w n fe (.AugAssign (.Attribute o x p') op value p) m ah Q X := by
  intro c fr s hc hst Qc Ec hQ hE
  refine wpAny_AugAssign_AttributeAny (h c fr s hc hst _ _ (fun a a' m1 ah1 h1 tk1 q1 r1 s1 => ?_) hE)
  obtain ⟨rfl, q1⟩ := q1
  refine q1 _ r1 c fr _ hc s1 _ _ (fun v0 v0' m2 ah2 h2 tk2 q2 r2 s2 => ?_) fun e ah' h' tk' => hE e ah' h' tk'
  obtain ⟨rfl, q2⟩ := q2
  refine q2 c fr _ hc s2 _ _ (fun v v' m3 ah3 h3 tk3 q3 r3 s3 => ?_) fun e ah' h' tk' => hE e ah' h' tk'
  obtain ⟨rfl, q3⟩ := q3
  refine q3 _ _ r2 r3 c fr _ hc s3 _ _ (fun r r' m4 ah4 h4 tk4 q4 r4 s4 => ?_) fun e ah' h' tk' => hE e ah' h' tk'
  obtain ⟨rfl, q4⟩ := q4
  refine q4 _ _ r1 r4 c fr _ hc s4 _ _ (fun _ _ m5 ah5 h5 tk5 q5 _ s5 => ?_) fun e ah' h' tk' => hE e ah' h' tk'
  obtain ⟨rfl, q5⟩ := q5
  exact hQ _ _ _ _ h5 tk5 q5 .next s5

theorem Ex1.if {t : Expr} {b o : List Stmt} {p : Pos} (h : Ts w n fe t m ah (fun c ah1 => if c then Ex w n fe b m ah1 Q X else Ex w n fe o m ah1 Q X) X) : Ex1 w n fe (.If t b o p) m ah Q X := by
  intro c fr s hc hs Qc Ec hQ hE
  refine wpAny_If (h c fr s hc hs _ _ (fun v v' m1 ah1 h1 tk1 q1 r1 s1 => ?_) hE)
  obtain ⟨rfl, q1⟩ := q1
  subst r1
  cases v' <;> exact q1 c fr _ hc s1 _ _ (fun v v' m3 ah3 h3 tk3 => hQ v v' m3 ah3 h3 tk3) fun e ah' h' tk' => hE e ah' h' tk'
theorem Ex1.ret {e : Expr} {p : Pos} (h : Ev w n fe e m ah (fun v ah1 => Q (.ret v) m ah1) X) : Ex1 w n fe (.Return (some e) p) m ah Q X := by
  intro c fr s hc hs Qc Ec hQ hE
  refine wpAny_Return_some (h c fr s hc hs _ _ (fun v v' m1 ah1 h1 tk1 q1 r1 s1 => ?_) hE)
  obtain ⟨rfl, q1⟩ := q1
  exact hQ _ _ _ _ h1 tk1 q1 (.ret r1) s1
theorem Ex1.expr {e : Expr} {p : Pos} (hi : ∀ L a, interactive (envOf fe.cn fe.cs L a fe.cd) = false) (hs : ∀ env, swapsWith e none p.line env = Pure.pure false) (h : Ev w n fe e m ah (fun _ ah1 => Q .next m ah1) X) : Ex1 w n fe (.Expr e p) m ah Q X := by
  intro c fr s hc hst Qc Ec hQ hE
  refine wpAny_Expr_any (h c fr s hc hst _ _ (fun v v' m1 ah1 h1 tk1 q1 r1 s1 => ?_) hE) (hi _ _) (hs _)
  obtain ⟨rfl, q1⟩ := q1
  exact hQ _ _ _ _ h1 tk1 q1 .next s1

end

section
variable {c : Cx} {m : Loc} {fr : List (Addr × Obj)} {ah : AH} {s : Shared} {I : Addr} {o o' : Obj}

theorem St.frAdd (hs : St c m fr ah s) (ho : o.isFreed = false) {tk : Nat} : St c m ((s.heap.objs.size, o) :: fr) ah { s with heap := s.heap.push o, toks := tk } ∧ ∀ p ∈ fr, p.1 ≠ s.heap.objs.size := by
  obtain ⟨vm, news, ow, F, hm, N, R⟩ := hs
  have lt : ∀ p ∈ news, p.1 < s.heap.objs.size := fun p hp => Heap.lt_size (N p hp).1
  refine ⟨⟨vm, (s.heap.objs.size, o) :: news, fun b => if b = s.heap.objs.size then none else ow b, F.push o, hm, N.push F o ho, ?_, ?_, ?_, ?_, ?_⟩, fun p hp => Nat.ne_of_lt (lt p (R.frm p hp).1)⟩
  · rw [List.map_cons, List.nodup_cons]
    refine ⟨fun q => ?_, R.nd⟩
    obtain ⟨p, hp, e⟩ := List.mem_map.mp q
    exact absurd (lt p hp) (by rw [e]; exact Nat.lt_irrefl _)
  · exact fun a x e => (R.obj a x e).grow fun p hp q => ⟨List.mem_cons_of_mem _ hp, (if_neg (Nat.ne_of_lt (lt p hp))).trans q⟩
  · intro p hp
    rcases List.mem_cons.mp hp with rfl | hp
    · exact ⟨List.mem_cons_self, if_pos rfl⟩
    · exact ⟨List.mem_cons_of_mem _ (R.frm p hp).1, (if_neg (Nat.ne_of_lt (lt p (R.frm p hp).1))).trans (R.frm p hp).2⟩
  · intro x hx
    obtain ⟨L, o1, h1, h2, h3, h4⟩ := R.fss x hx
    exact ⟨L, o1, h1, List.mem_cons_of_mem _ h2, (if_neg (Nat.ne_of_lt (lt _ h2))).trans h3, h4⟩
  · intro p hp x hx q
    rcases List.mem_cons.mp hp with rfl | hp
    · obtain ⟨L, o1, h1, h2, _, _⟩ := R.fss x hx
      rw [h1] at q; cases q
      exact Nat.lt_irrefl _ (lt _ h2)
    · exact R.off p hp x hx q

theorem St.frGet (hs : St c m ((I, o) :: fr) ah s) : s.heap.get? I = some o ∧ I ≠ c.L := by
  obtain ⟨vm, news, ow, F, hm, N, R⟩ := hs
  have h := (R.frm _ List.mem_cons_self).1
  exact ⟨(N _ h).1, (N _ h).2.1⟩

theorem St.frSet (hs : St c m ((I, o) :: fr) ah s) (hfr : ∀ p ∈ fr, p.1 ≠ I) (hnd : ∀ es ep, o.data ≠ .dict es ep) {h' : Heap} {tk : Nat} (hsb : Heap.SameBut I s.heap h') (hg : h'.get? I = some o') : St c m ((I, o') :: fr) ah { s with heap := h', toks := tk } := by
  obtain ⟨vm, news, ow, F, hm, N, R⟩ := hs
  obtain ⟨hI, how⟩ := R.frm _ List.mem_cons_self
  obtain ⟨pre, post, rfl, k1, k2⟩ := split_news R.nd hI
  refine ⟨vm, _, ow, F.change hsb (N _ hI).2.1 (N _ hI).2.2, hm, news_set N k1 k2 hsb hg, ?_, ?_, ?_, ?_, fun p hp => (List.mem_cons.mp hp).elim (fun z => by subst z; exact R.off (I, o) List.mem_cons_self) fun hp => R.off p (List.mem_cons_of_mem _ hp)⟩
  · have := R.nd; simpa using this
  · exact fun a x e => (R.obj a x e).grow fun p hp q => ⟨mem_replace hp fun z => (by rw [z, how] at q; cases q), q⟩
  · intro p hp
    rcases List.mem_cons.mp hp with rfl | hp
    · exact ⟨List.mem_append_right _ List.mem_cons_self, how⟩
    · exact ⟨mem_replace (R.frm p (List.mem_cons_of_mem _ hp)).1 (hfr p hp), (R.frm p (List.mem_cons_of_mem _ hp)).2⟩
  · intro x hx
    obtain ⟨L, o1, h1, h2, h3, h4⟩ := R.fss x hx
    refine ⟨L, o1, h1, mem_replace h2 fun z => ?_, h3, h4⟩
    have g1 := (N _ h2).1
    have g2 := (N _ hI).1
    rw [show L = I from z, g2] at g1
    obtain ⟨es, ep, hd, _⟩ := h4
    have g3 : o = o1 := Option.some.inj g1
    exact hnd es ep (by rw [g3]; exact hd)

theorem St.frDrop (hs : St c m ((I, o) :: fr) ah s) (hfr : ∀ p ∈ fr, p.1 ≠ I) (hnd : ∀ es ep, o.data ≠ .dict es ep) {h' : Heap} {tk : Nat} (hk : ∀ b x, b ≠ I → s.heap.get? b = some x → h'.get? b = some x) : St c m fr ah { s with heap := h', toks := tk } := by
  obtain ⟨vm, news, ow, F, hm, N, R⟩ := hs
  obtain ⟨hI, how⟩ := R.frm _ List.mem_cons_self
  have hLI : c.L ≠ I := (N _ hI).2.1.symm
  have key : ∀ p ∈ news, p.1 ≠ I → p ∈ news.filter (fun p => !decide (p.1 = I)) := fun p hp q => List.mem_filter.mpr ⟨hp, by simp [q]⟩
  obtain ⟨oL, es, ep, hL, r⟩ := F.ns
  refine ⟨vm, news.filter (fun p => !decide (p.1 = I)), ow, ⟨⟨oL, es, ep, hk _ _ hLI hL, r⟩, fun b x e => hk b x (fun z => ?_) (F.keep b x e), F.above⟩, hm, ?_, ?_, ?_, ?_, ?_, fun p hp => R.off p (List.mem_cons_of_mem _ hp)⟩
  · have := (N _ hI).2.2
    rw [← z, e] at this; cases this
  · intro p hp
    obtain ⟨h1, h2⟩ := List.mem_filter.mp hp
    exact ⟨hk _ _ (by simpa using h2) (N p h1).1, (N p h1).2⟩
  · exact R.nd.sublist (List.Sublist.map _ List.filter_sublist)
  · exact fun a x e => (R.obj a x e).grow fun p hp q => ⟨key p hp fun z => (by rw [z, how] at q; cases q), q⟩
  · intro p hp
    exact ⟨key p (R.frm p (List.mem_cons_of_mem _ hp)).1 (hfr p hp), (R.frm p (List.mem_cons_of_mem _ hp)).2⟩
  · intro x hx
    obtain ⟨L, o1, h1, h2, h3, h4⟩ := R.fss x hx
    refine ⟨L, o1, h1, key _ h2 fun z => ?_, h3, h4⟩
    have g1 := (N _ h2).1
    have g2 := (N _ hI).1
    rw [show L = I from z, g2] at g1
    obtain ⟨es, ep, hd, _⟩ := h4
    have g3 : o = o1 := Option.some.inj g1
    exact hnd es ep (by rw [g3]; exact hd)

theorem Raised.frDrop {fe : FE} {e : Value} (hr : Raised c fe ((I, o) :: fr) ah e s) : Raised c fe fr ah e s := by
  obtain ⟨ea, B, news, ow, vm, he, hl, r⟩ := hr
  exact ⟨ea, B, news, ow, vm, he, { hl with frm := fun p hp => hl.frm p (List.mem_cons_of_mem _ hp) }, r⟩
end

section
variable {w : World} {n : Nat} {fe : FE} {m : Loc} {ah : AH} {X : AH → Prop} {Q : AF → Loc → AH → Prop}

theorem Ex1.while {t : Expr} {body : List Stmt} {p : Pos} (J : Nat → Loc → AH → Prop) (k : Nat) (h0 : J k m ah)
    (step : ∀ k m ah, J k m ah → Ts w n fe t m ah (fun b ah1 => if b then Ex w n fe body m ah1 (fun fl m2 ah2 => match fl with
      | .brk => Q .next m2 ah2
      | .ret v => Q (.ret v) m2 ah2
      | _ => ∃ j, j < k ∧ J j m2 ah2) X else Q .next m ah1) X) : Ex1 w n fe (.While t body [] p) m ah Q X := by
  intro c fr s hc hst Qc Ec hQ hE
  refine wpAny_mono (E := EF c fe fr X s) (Q := Qc) ?_ (fun _ _ x => x) (fun e s' ⟨ah', h', tk', hX, hs, hr⟩ => by subst hs; exact hE e ah' h' tk' hX hr)
  refine wpAny_While (codeAny_whileLoop (R := fun r s' => match r with | .ok f => Qc f s' | .error e => cameBackBy (model prog w) (c.A fe) (c.env fe) (EF c fe fr X s) e s')
    (fun k s' => ∃ m' ah' h' tk', s' = { s with heap := h', toks := tk' } ∧ J k m' ah' ∧ St c m' fr ah' s') ?_ k ⟨m, ah, s.heap, s.toks, rfl, h0, hst⟩)
  rintro k s' ⟨m', ah', h', tk', rfl, hJ, hs'⟩
  refine wpAny_passesOwn (EF.passes hc) ?_
  refine step k m' ah' hJ c fr _ hc hs' _ _ (fun b b' m1 ah1 h1 tk1 q1 r1 s1 => ?_) (fun e ah'' h'' tk'' hX hr => ⟨ah'', h'', tk'', hX, rfl, hr⟩)
  obtain ⟨rfl, q1⟩ := q1
  subst r1
  cases b' with
  | false =>
    show wpAny _ _ (execs [] _) _ _ _
    exact wpAny_execs_nil (hQ .next .next _ _ h1 tk1 q1 .next s1)
  | true =>
    show wpAny _ _ (execs body _) _ _ _
    refine wpAny_passesOwn (EF.passes hc) ?_
    refine q1 c fr _ hc s1 _ _ (fun fl fl' m2 ah2 h2 tk2 q2 r2 s2 => ?_) (fun e ah'' h'' tk'' hX hr => ⟨ah'', h'', tk'', hX, rfl, hr⟩)
    cases r2 with
    | next => obtain ⟨j, hj, q2⟩ := q2; exact ⟨j, hj, _, _, h2, tk2, rfl, q2, s2⟩
    | cont => obtain ⟨j, hj, q2⟩ := q2; exact ⟨j, hj, _, _, h2, tk2, rfl, q2, s2⟩
    | brk => exact hQ .next .next _ _ h2 tk2 q2 .next s2
    | ret hv => exact hQ _ _ _ _ h2 tk2 q2 (.ret hv) s2


structure Iter (w : World) (n : Nat) (fe : FE) (I : Addr) (It : Nat → Obj → Prop) (P : Nat → AV → Prop) (K : AH → Prop) (len : Nat) (target : Expr) : Prop where
  nd : ∀ i o, It i o → ∀ es ep, o.data ≠ .dict es ep
  item : ∀ (i : Nat) (c : Cx) (m : Loc) (fr : List (Addr × Obj)) (ah : AH) (s : Shared) (o : Obj), c.Ok w n fe → St c m ((I, o) :: fr) ah s → (∀ p ∈ fr, p.1 ≠ I) → It i o → K ah → i < len → ∀ (Q' : Option Value → Shared → Prop) (E' : Value → Shared → Prop),
    (∀ x v o' h' tk, P i x → RV x v → It (i + 1) o' → St c m ((I, o') :: fr) ah { s with heap := h', toks := tk } → (∀ E'' Q'', Q'' () { s with heap := h', toks := tk } → wpAny (model prog w) (c.A fe) (letOwnedTupleGo target (.ref I) v) Q'' E'' { s with heap := h', toks := tk }) → Q' (some v) { s with heap := h', toks := tk }) →
    wpAny (model prog w) (c.A fe) (pyNext (.ref I)) Q' E' s
  done : ∀ (c : Cx) (m : Loc) (fr : List (Addr × Obj)) (ah : AH) (s : Shared) (o : Obj), c.Ok w n fe → St c m ((I, o) :: fr) ah s → (∀ p ∈ fr, p.1 ≠ I) → It len o → K ah → ∀ (Q' : Option Value → Shared → Prop) (E' : Value → Shared → Prop),
    (∀ h' tk, St c m fr ah { s with heap := h', toks := tk } → Q' none { s with heap := h', toks := tk }) → wpAny (model prog w) (c.A fe) (pyNext (.ref I)) Q' E' s

theorem for_core {c : Cx} {fr : List (Addr × Obj)} {s : Shared} {I : Addr} {It : Nat → Obj → Prop} {P : Nat → AV → Prop} {K : AH → Prop} {len : Nat} {o : Obj} {target : Expr} {body : List Stmt} {Qc : Flow → Shared → Prop} {s₀ : Shared} (hs₀ : ∀ h tk, ({ s with heap := h, toks := tk } : Shared) = { s₀ with heap := h, toks := tk })
    (W : Iter w n fe I It P K len target) (hc : c.Ok w n fe) (hst : St c m ((I, o) :: fr) ah s) (hfr : ∀ p ∈ fr, p.1 ≠ I) (hIt : It 0 o)
    (J : Nat → Loc → AH → Prop) (h0 : J 0 m ah) (hK : ∀ i m ah, J i m ah → K ah)
    (step : ∀ i m1 ah2 x, i < len → J i m1 ah2 → P i x → As w n fe target x m1 ah2 (fun m2 ah3 => Ex w n fe body m2 ah3 (fun fl m3 ah4 => match fl with
      | .brk => Q .next m3 ah4
      | .ret v => Q (.ret v) m3 ah4
      | _ => J (i + 1) m3 ah4) X) X)
    (hend : ∀ m2 ah2, J len m2 ah2 → Q .next m2 ah2)
    (hQ : ∀ b a m' ah' h tk, Q b m' ah' → RF b a → St c m' fr ah' { s₀ with heap := h, toks := tk } → Qc a { s₀ with heap := h, toks := tk }) :
    codeAny (model prog w) (c.A fe) (.forLoop target (.ref I) body [] (c.env fe)) (fun r s' => match r with | .ok f => Qc f s' | .error e => cameBackBy (model prog w) (c.A fe) (c.env fe) (EF c fe fr X s₀) e s') s := by
  refine codeAny_forLoop_any (R := fun r s' => match r with | .ok f => Qc f s' | .error e => cameBackBy (model prog w) (c.A fe) (c.env fe) (EF c fe fr X s₀) e s')
    (fun k s' => ∃ i m' ah' o' h' tk', s' = { s₀ with heap := h', toks := tk' } ∧ i ≤ len ∧ k = len + 1 - i ∧ J i m' ah' ∧ It i o' ∧ St c m' ((I, o') :: fr) ah' s') ?_ (len + 1)
    ⟨0, m, ah, o, s.heap, s.toks, hs₀ s.heap s.toks, Nat.zero_le _, rfl, h0, hIt, hst⟩
  rintro k s' ⟨i, m', ah', o', h', tk', rfl, hi, rfl, hJ, hIt', hs'⟩
  by_cases hlt : i < len
  · refine W.item i c m' fr ah' _ o' hc hs' hfr hIt' (hK _ _ _ hJ) hlt _ _ fun x v o2 h2 tk2 hP hv hIt2 s2 hlet => ?_
    show wpAny _ _ (letOwnedTupleGo target (.ref I) v) _ _ _
    refine hlet _ _ ?_
    refine wpAny_passesOwn (EF.passes hc) ?_
    refine step i m' ah' x hlt hJ hP v hv c _ _ hc s2 _ _ (fun _ _ m3 ah3 h3 tk3 q3 _ s3 => ?_) (fun e ah'' h'' tk'' hX hr => ⟨ah'', h'', tk'', hX, rfl, hr.frDrop⟩)
    refine wpAny_passesOwn (EF.passes hc) ?_
    refine q3 c _ _ hc s3 _ _ (fun fl fl' m4 ah4 h4 tk4 q4 r4 s4 => ?_) (fun e ah'' h'' tk'' hX hr => ⟨ah'', h'', tk'', hX, rfl, hr.frDrop⟩)
    have drop : St c m4 fr ah4 { s₀ with heap := h4, toks := tk4 } := s4.frDrop (tk := tk4) hfr (W.nd _ _ hIt2) fun b x _ e => e
    cases r4 with
    | next => exact ⟨len + 1 - (i + 1), by omega, i + 1, _, _, o2, h4, tk4, rfl, hlt, rfl, q4, hIt2, s4⟩
    | cont => exact ⟨len + 1 - (i + 1), by omega, i + 1, _, _, o2, h4, tk4, rfl, hlt, rfl, q4, hIt2, s4⟩
    | brk => exact hQ .next .next _ _ h4 tk4 q4 .next drop
    | ret hv => exact hQ _ _ _ _ h4 tk4 q4 (.ret hv) drop
  · have hin : i = len := by omega
    subst hin
    refine W.done c m' fr ah' _ o' hc hs' hfr hIt' (hK _ _ _ hJ) _ _ fun h2 tk2 s2 => ?_
    exact wpAny_execs_nil (hQ .next .next _ _ h2 tk2 (hend _ _ hJ) .next s2)

noncomputable def listIt (a : Addr) (i : Nat) (o : Obj) : Prop := o.cls = .type "list_iterator" ∧ o.data = .fields #[.ref a, .int i 0]
theorem iter_list {I a : Addr} (hIa : a ≠ I) {vs : List AV} {target : Expr} (ht : (∀ it v, letOwnedTupleGo target it v = Pure.pure ()) ∨ (∃ es k p, target = .Tuple es k p ∧ ∀ x ∈ vs, ∃ b, x = .ref b)) :
    Iter w n fe I (listIt a) (fun i x => vs[i]? = some x) (fun ah => ah a = some (.list vs)) vs.length target where
  nd := by rintro i o ⟨_, h⟩ es ep e; rw [h] at e; cases e
  item := by
    intro i c m fr ah s o hc hst hfr hIt hK hlt Q' E' hQ
    obtain ⟨vm, news, ow, O⟩ := hst.opn
    obtain ⟨vs', h1, h2⟩ := O.isList hK
    have hx : vs[i]? = some vs[i] := List.getElem?_eq_getElem hlt
    obtain ⟨x', hx', hr⟩ := h2.get hx
    have hg := hst.frGet
    refine wpAny_pyNext_list_item ⟨o, hg.1, hIt⟩ h1 (by simpa using hx') fun h' hit' hsb => ?_
    obtain ⟨o', ho', hc', hd'⟩ := id hit'
    have st' : St c m ((I, o') :: fr) ah { s with heap := h', toks := s.toks } := hst.frSet hfr (by obtain ⟨_, h⟩ := hIt; intro es ep e; rw [h] at e; cases e) hsb ho'
    refine hQ vs[i] x' o' h' s.toks hx hr ⟨hc', hd'⟩ st' fun E'' Q'' hq => ?_
    rcases ht with ht | ⟨es, k, p, rfl, hb⟩
    · rw [ht]; exact wpAny_pure hq
    · obtain ⟨b, hb'⟩ := hb _ (List.getElem_mem hlt)
      rw [hb'] at hr
      cases hr
      exact wpAny_letOwnedTupleGo_listiter (s := { s with heap := h' }) hit' hq
  done := by
    intro c m fr ah s o hc hst hfr hIt hK Q' E' hQ
    obtain ⟨vm, news, ow, O⟩ := hst.opn
    obtain ⟨vs', h1, h2⟩ := O.isList hK
    have hl := h2.length
    have hg := hst.frGet
    refine wpAny_pyNext_list_end (show (c.A fe).handled = none from hc.hh) ⟨o, hg.1, hIt⟩ h1 (by simp; omega) fun h' he => ?_
    exact hQ h' s.toks (hst.frDrop hfr (by obtain ⟨_, h⟩ := hIt; intro es ep e; rw [h] at e; cases e) fun b x hb e => he b x hb e)

theorem Ex1.forList {target iter : Expr} {body : List Stmt} {p : Pos} (hfold : ∀ env x, foldedSetIterable iter env x = Pure.pure x)
    (h : Ev w n fe iter m ah (fun v ah1 => ∃ a vs, v = .ref a ∧ ah1 a = some (.list vs) ∧ ((∀ it v, letOwnedTupleGo target it v = Pure.pure ()) ∨ (∃ es k p, target = .Tuple es k p ∧ ∀ x ∈ vs, ∃ b, x = .ref b)) ∧
      ∃ J : Nat → Loc → AH → Prop, J 0 m ah1 ∧ (∀ i m ah, J i m ah → ah a = some (.list vs)) ∧
        (∀ i m1 ah2 x, i < vs.length → J i m1 ah2 → vs[i]? = some x → As w n fe target x m1 ah2 (fun m2 ah3 => Ex w n fe body m2 ah3 (fun fl m3 ah4 => match fl with
          | .brk => Q .next m3 ah4
          | .ret v => Q (.ret v) m3 ah4
          | _ => J (i + 1) m3 ah4) X) X) ∧ (∀ m2 ah2, J vs.length m2 ah2 → Q .next m2 ah2)) X) : Ex1 w n fe (.For target iter body [] p) m ah Q X := by
  intro c fr s hc hst Qc Ec hQ hE
  refine wpAny_mono (E := EF c fe fr X s) (Q := Qc) ?_ (fun _ _ x => x) (fun e s' ⟨ah', h', tk', hX, hs, hr⟩ => by subst hs; exact hE e ah' h' tk' hX hr)
  refine wpAny_For (h c fr s hc hst _ _ (fun v v' m1 ah1 h1 tk1 q1 r1 s1 => ?_) (fun e ah'' h'' tk'' hX hr => ⟨ah'', h'', tk'', hX, rfl, hr⟩)) (hfold _)
  obtain ⟨rfl, a, vs, rfl, e, ht, J, j0, jK, jstep, jend⟩ := q1
  cases r1
  obtain ⟨vm, news, ow, O⟩ := s1.opn
  obtain ⟨vs', k1, k2⟩ := O.isList e
  refine wpAny_pyIter_list k1 ?_
  obtain ⟨s2, hfr⟩ := s1.frAdd (o := { cls := Value.type "list_iterator", data := Data.fields #[Value.ref a, Value.int 0 0] }) (tk := tk1) rfl
  have hIa : a ≠ h1.objs.size := by
    obtain ⟨o, ho, _⟩ := k1
    exact Nat.ne_of_lt (Heap.lt_size ho)
  exact for_core (s₀ := s) (fun _ _ => rfl) (iter_list hIa ht) hc s2 hfr ⟨rfl, rfl⟩ J j0 jK (fun i m1 ah2 x hi hj hx => jstep i m1 ah2 x hi hj hx) jend hQ

noncomputable def rangeIt (len i : Nat) (o : Obj) : Prop := o = { cls := .type "range_iterator", data := .fields #[rawInt (i : Int), rawInt ((len : Int) - (i : Int)), rawInt 1] }
theorem iter_range {I : Addr} {len : Nat} {target : Expr} (ht : ∀ it v, letOwnedTupleGo target it v = Pure.pure ()) :
    Iter w n fe I (rangeIt len) (fun i x => x = .int (i : Int)) (fun _ => True) len target where
  nd := by rintro i o h es ep e; rw [show o = _ from h] at e; cases e
  item := by
    intro i c m fr ah s o hc hst hfr hIt _ hlt Q' E' hQ
    have hg := hst.frGet
    rw [show o = _ from hIt] at hg
    refine wpAny_pyNext_range_item (x := (i : Int)) (left := (len : Int) - (i : Int)) (step := 1) hg.1 (by omega) fun h' hit' hsb => ?_
    have st' : St c m ((I, _) :: fr) ah { s with heap := h', toks := s.toks + 1 } := hst.frSet hfr (by intro es ep e; rw [show o = _ from hIt] at e; cases e) hsb hit'
    refine hQ (.int i) _ _ h' (s.toks + 1) rfl (.int _ _) ?_ st' fun E'' Q'' hq => by rw [ht]; exact wpAny_pure hq
    show _ = _
    have e1 : (i : Int) + 1 = ((i + 1 : Nat) : Int) := by omega
    have e2 : (len : Int) - (i : Int) - 1 = (len : Int) - ((i + 1 : Nat) : Int) := by omega
    rw [e1, e2]
  done := by
    intro c m fr ah s o hc hst hfr hIt _ Q' E' hQ
    have hg := hst.frGet
    rw [show o = _ from hIt] at hg
    refine wpAny_pyNext_range_end (x := (len : Int)) (left := (len : Int) - (len : Int)) (step := 1) (show (c.A fe).handled = none from hc.hh) hg.1 (by omega) fun h' he => ?_
    exact hQ h' s.toks (hst.frDrop hfr (by intro es ep e; rw [show o = _ from hIt] at e; cases e) fun b x hb e => he b x hb e)


theorem Ex1.forRange {target e : Expr} {body : List Stmt} {p pc pn : Pos} (hfold : ∀ env x, foldedSetIterable (.Call (.Name "range" pn) [e] [] pc) env x = Pure.pure x) (ht : ∀ it v, letOwnedTupleGo target it v = Pure.pure ())
    (hs : CallShape (.Name "range" pn) [e] pc) (he : NoStar e) (hg : nsIn (hd.heap_1 w.params) mainGlobals "range" = some none) (hx : fe.cs.names.lookup ("range" : Str) = some .globalImplicit)
    (h : Ev w n fe e m ah (fun v ah1 => ∃ k : Nat, v = .int k ∧ k ≤ 100000 ∧
      ∃ J : Nat → Loc → AH → Prop, J 0 m ah1 ∧
        (∀ (i : Nat) m1 ah2, i < k → J i m1 ah2 → As w n fe target (.int i) m1 ah2 (fun m2 ah3 => Ex w n fe body m2 ah3 (fun fl m3 ah4 => match fl with
          | .brk => Q .next m3 ah4
          | .ret v => Q (.ret v) m3 ah4
          | _ => J (i + 1) m3 ah4) X) X) ∧ (∀ m2 ah2, J k m2 ah2 → Q .next m2 ah2)) X) : Ex1 w n fe (.For target (.Call (.Name "range" pn) [e] [] pc) body [] p) m ah Q X := by
  intro c fr s hc hst Qc Ec hQ hE
  refine wpAny_mono (E := EF c fe fr X s) (Q := Qc) ?_ (fun _ _ x => x) (fun e s' ⟨ah', h', tk', hX, hs, hr⟩ => by subst hs; exact hE e ah' h' tk' hX hr)
  refine wpAny_For ?_ (hfold _)
  refine Call_ ?_ (hs _)
  obtain ⟨vm, news, ow, O⟩ := hst.opn
  refine name_B O.F hc.K (topRead_of hc.T) hg PyProof.Rows.Boot.«range» (by decide) ?_ hc.hk hx (by decide)
  refine callWith_args (P := fun _ => True) he rfl (fun _ _ => ⟨.machine, .inr (.inl rfl), Looks.of_pure rfl⟩) ?_
  rw [he]
  show wpAny _ _ (spliced [(false, eval e (c.env fe))]) _ _ _
  refine spliced_cons (h c fr s hc hst _ _ (fun v v' m1 ah1 h1 tk1 q1 r1 s1 => spliced_nil ⟨trivial, ?_⟩) (fun e ah'' h'' tk'' hX hr => ⟨ah'', h'', tk'', hX, rfl, hr⟩))
  obtain ⟨rfl, k, rfl, hk, J, j0, jstep, jend⟩ := q1
  cases r1
  rename_i t
  refine call_range_1 ?_
  have hsz : Builtin.Range.rangeSize 0 (k : Int) 1 = (k : Int) := by rw [rangeSize_one]; split <;> omega
  refine wpAny_pyIter_range (IsRange.new ..) (small_one (by decide) (by decide) (by omega) (by omega)) ?_
  have s2 := s1.keeps (h' := h1.push { cls := Value.type "range", data := Data.fields #[Value.int 0 tk1, Value.int (k : Int) t, Value.int 1 (tk1 + 1)] }) (tk := tk1 + 1 + 1) fun b o e => Heap.get?_push_of_some _ e
  obtain ⟨s3, hfr⟩ := s2.frAdd (o := { cls := .type "range_iterator", data := .fields #[rawInt 0, rawInt (Builtin.Range.rangeSize 0 (k : Int) 1), rawInt 1] }) (tk := tk1 + 1 + 1) rfl
  exact for_core (K := fun _ => True) (s₀ := s) (fun _ _ => rfl) (iter_range (len := k) ht) hc s3 hfr (by show _ = _; rw [hsz]; simp) J j0 (fun _ _ _ _ => trivial) (fun i m1 ah2 x hi hj hx => by subst hx; exact jstep i m1 ah2 hi hj) jend hQ

end


theorem filterMap_run (l : List Nat) (a k : Nat) : ((List.range k).map (a + ·)).filterMap (l[·]?) = (l.drop a).take k := by
  induction k generalizing a l with
  | zero => simp
  | succ k ih =>
    rw [List.range_succ_eq_map, List.map_cons, List.map_map]
    have e : ((fun x => a + x) ∘ Nat.succ) = fun x => (a + 1) + x := by funext x; simp only [Function.comp]; omega
    rw [e]
    by_cases h : a < l.length
    · rw [List.filterMap_cons_some (b := l[a]) (by simp [h]), ih, List.drop_eq_getElem_cons h, List.take_succ_cons]
    · have h1 : l[a + 0]? = none := by simp; omega
      rw [List.filterMap_cons_none h1, ih, List.drop_eq_nil_of_le (by omega), List.drop_eq_nil_of_le (by omega)]
      simp

theorem clip_nat (i n : Nat) : max (0 : Int) (min (if (i : Int) < 0 then (i : Int) + n else i) n) = ((min i n : Nat) : Int) := by
  have : ¬ ((i : Int) < 0) := by omega
  rw [if_neg this]; omega
theorem str_ext_list {x y : Str} (h : x.cps.toList = y.cps.toList) : x = y := by
  obtain ⟨a⟩ := x; obtain ⟨b⟩ := y
  simp only [Str.mk.injEq] at *
  exact Array.toList_inj.mp h
theorem slice_cps (x : Str) (i j : Nat) : (Txt.slice x (some (i : Int)) (some (j : Int))).cps.toList = (x.cps.toList.take j).drop i := by
  have hn : x.length = x.cps.toList.length := by show x.cps.size = _; simp
  have hi : Builtin.Str.strSliceIndices (some (i : Int)) (some (j : Int)) 1 x.length = sliceRange ((min i x.length : Nat) : Int) ((min j x.length : Nat) : Int) 1 := by
    unfold Builtin.Str.strSliceIndices
    simp only [show (1 : Int) > 0 by decide, if_true, clip_nat]
  have hr : (Builtin.Str.strSliceIndices (some (i : Int)) (some (j : Int)) 1 x.length).filterMap (x.cps[·]?) = (x.cps.toList.take j).drop i := by
    rw [hi, sliceRange_one]
    have e : (fun k : Nat => x.cps[k]?) = fun k : Nat => x.cps.toList[k]? := by funext k; simp
    rw [e, filterMap_run]
    apply List.ext_getElem?
    intro k
    simp only [List.getElem?_take, List.getElem?_drop]
    rw [hn]
    by_cases h : k < min j x.cps.toList.length - min i x.cps.toList.length
    · rw [if_pos h, if_pos (by omega)]
      congr 1; omega
    · rw [if_neg h]
      split
      · rw [List.getElem?_eq_none (by omega)]
      · rfl
  unfold Txt.slice
  split
  · rename_i h
    simp only [beq_self_eq_true, Bool.true_and, beq_iff_eq] at h
    rw [hi, sliceRange_one, List.length_map, List.length_range] at h
    have h1 : x.cps.toList.length ≤ j := by omega
    have h2 : x.cps.toList.length = 0 ∨ i = 0 := by omega
    rw [List.take_of_length_le h1]
    rcases h2 with h2 | rfl
    · rw [List.drop_eq_nil_of_le (by omega)]; exact List.eq_nil_of_length_eq_zero h2
    · simp
  · rw [hr]
theorem slice_cps0 (x : Str) (j : Nat) : (Txt.slice x none (some (j : Int))).cps.toList = x.cps.toList.take j := by
  have e : Txt.slice x none (some (j : Int)) = Txt.slice x (some ((0 : Nat) : Int)) (some (j : Int)) := by
    unfold Txt.slice
    have : Builtin.Str.strSliceIndices none (some (j : Int)) 1 x.length = Builtin.Str.strSliceIndices (some ((0 : Nat) : Int)) (some (j : Int)) 1 x.length := by
      unfold Builtin.Str.strSliceIndices
      simp only [show (1 : Int) > 0 by decide, if_true, clip_nat]
      simp
    rw [this]
  rw [e, slice_cps]; simp

section
variable {w : World} {n : Nat} {fe : FE} {m : Loc} {ah : AH} {X : AH → Prop} {Q : AV → AH → Prop}

noncomputable def SlOk2 (sl : Expr) : Prop := ∀ o i, subscripted sl false o i = operate [i, o] (getItem o i)


theorem Ev.sliceStr {v lo hi : Expr} {p ps : Pos} (hlt : ∀ (x : Str) (t : Tok) (r : Value), letTemporaryGo v (.str x t) r = Pure.pure ())
    (h : Ev w n fe v m ah (fun a ah1 => ∃ x, a = .str x ∧ x.length ≤ 100000 ∧ Ev w n fe lo m ah1 (fun b ah2 => ∃ i : Int, b = .int i ∧ Ev w n fe hi m ah2 (fun d ah3 => ∃ j : Int, d = .int j ∧ Q (.str (Txt.slice x (some i) (some j))) ah3) X) X) X) :
    Ev w n fe (.Subscript v (.Slice (some lo) (some hi) Option.none ps) p) m ah Q X := by
  intro c fr s hc hst Qc Ec hQ hE
  refine Subscript_ (h c fr s hc hst _ _ (fun a a' m1 ah1 h1 tk1 q1 r1 s1 => ?_) hE)
  obtain ⟨rfl, x, rfl, hz, q1⟩ := q1
  cases r1
  refine wpAny_Slice ?_
  rw [evalPart_some, evalPart_some, evalPart_none]
  refine q1 c fr _ hc s1 _ _ (fun b b' m2 ah2 h2 tk2 q2 r2 s2 => ?_) fun e ah' h' tk' => hE e ah' h' tk'
  obtain ⟨rfl, i, rfl, q2⟩ := q2
  cases r2
  refine q2 c fr _ hc s2 _ _ (fun d d' m3 ah3 h3 tk3 q3 r3 s3 => ?_) fun e ah' h' tk' => hE e ah' h' tk'
  obtain ⟨rfl, j, rfl, q3⟩ := q3
  cases r3
  refine wpAny_pure ?_
  obtain ⟨vm, news, ow, O⟩ := s3.opn
  exact slice_strN_ss (s := { s with heap := h3, toks := tk3 }) O.F O.N (fun h' t' k' F' N' => hQ _ _ _ ah3 h' k' ⟨rfl, q3⟩ (.str _ _) (O.same F' N')) rfl (hlt _ _) (by rw [sizeLine_eq]; omega)

theorem Ev.sliceStr0 {v hi : Expr} {p ps : Pos} (hlt : ∀ (x : Str) (t : Tok) (r : Value), letTemporaryGo v (.str x t) r = Pure.pure ())
    (h : Ev w n fe v m ah (fun a ah1 => ∃ x, a = .str x ∧ x.length ≤ 100000 ∧ Ev w n fe hi m ah1 (fun d ah3 => ∃ j : Int, d = .int j ∧ Q (.str (Txt.slice x Option.none (some j))) ah3) X) X) :
    Ev w n fe (.Subscript v (.Slice Option.none (some hi) Option.none ps) p) m ah Q X := by
  intro c fr s hc hst Qc Ec hQ hE
  refine Subscript_ (h c fr s hc hst _ _ (fun a a' m1 ah1 h1 tk1 q1 r1 s1 => ?_) hE)
  obtain ⟨rfl, x, rfl, hz, q1⟩ := q1
  cases r1
  refine wpAny_Slice ?_
  rw [evalPart_some, evalPart_none]
  refine wpAny_pure ?_
  refine q1 c fr _ hc s1 _ _ (fun d d' m3 ah3 h3 tk3 q3 r3 s3 => ?_) fun e ah' h' tk' => hE e ah' h' tk'
  obtain ⟨rfl, j, rfl, q3⟩ := q3
  cases r3
  refine wpAny_pure ?_
  obtain ⟨vm, news, ow, O⟩ := s3.opn
  exact slice_strN_ns (s := { s with heap := h3, toks := tk3 }) O.F O.N (fun h' t' k' F' N' => hQ _ _ _ ah3 h' k' ⟨rfl, q3⟩ (.str _ _) (O.same F' N')) rfl (hlt _ _) (by rw [sizeLine_eq]; omega)


noncomputable def upto (n : Nat) (j : Int) : Nat := if j < 0 then (j + n).toNat else j.toNat
theorem slicePick_int (items : Array Value) (j : Int) : slicePick items none (some j) none = (items.toList.take (upto items.size j)).toArray := by
  unfold upto
  by_cases h : j < 0
  · rw [if_pos h, slicePick_plain]
    simp only [Option.elim, List.drop_zero, Nat.sub_zero]
    congr 2
    unfold clipAt
    rw [if_pos h]; omega
  · rw [if_neg h]
    obtain ⟨k, rfl⟩ := Int.eq_ofNat_of_zero_le (Int.not_lt.mp h)
    exact slicePick_upto' items k
end

section
variable {w : World} {n : Nat} {fe : FE} {m : Loc} {ah : AH} {X : AH → Prop} {Q : AV → AH → Prop}
theorem Ev.sliceList0 {v hi : Expr} {p ps : Pos}
    (h : Ev w n fe v m ah (fun a ah1 => ∃ x vs, a = .ref x ∧ ah1 x = some (.list vs) ∧ vs.length ≤ 100000 ∧ Ev w n fe hi m ah1 (fun d ah3 => ∃ j : Int, d = .int j ∧ ah3 x = some (.list vs) ∧ ∀ b, ah3 b = Option.none → Q (.ref b) (ah3.set b (.list (vs.take (upto vs.length j))))) X) X) :
    Ev w n fe (.Subscript v (.Slice Option.none (some hi) Option.none ps) p) m ah Q X := by
  intro c fr s hc hst Qc Ec hQ hE
  refine Subscript_ (h c fr s hc hst _ _ (fun a a' m1 ah1 h1 tk1 q1 r1 s1 => ?_) hE)
  obtain ⟨rfl, x, vs, rfl, e, hz, q1⟩ := q1
  cases r1
  refine wpAny_Slice ?_
  rw [evalPart_some, evalPart_none]
  refine wpAny_pure ?_
  refine q1 c fr _ hc s1 _ _ (fun d d' m3 ah3 h3 tk3 q3 r3 s3 => ?_) fun e ah' h' tk' => hE e ah' h' tk'
  obtain ⟨rfl, j, rfl, e3, q3⟩ := q3
  cases r3
  refine wpAny_pure ?_
  obtain ⟨vm, news, ow, O⟩ := s3.opn
  obtain ⟨vs', k1, k2⟩ := O.isList e3
  have hl := k2.length
  refine kba_turn (value' := Expr.Name (Str.ofString "_") ⟨0, 0, 0, 0⟩) (fun _ => rfl) ?_
  refine kmk_slice (s := { s with heap := h3, toks := tk3 }) O.F O.N k1 IsPart.none (IsPart.int j _) (fun D h' F' N' lt => ?_) rfl (fun _ => rfl) (by rw [sizeLine_eq]; simp; omega)
  rw [slicePick_int] at N'
  have N2 : News c.base c.L h' ((D, listOf (vs'.take (upto vs.length j)).toArray 0) :: news) := by rw [← hl]; exact N'
  obtain ⟨g1, g2⟩ := O.newList (tk := tk3) F' N2 lt (k2.take (upto vs.length j))
  exact hQ _ _ _ _ h' tk3 ⟨rfl, q3 D g1⟩ (.ref D) g2
end

section
variable {c : Cx} {m : Loc} {fr fr' : List (Addr × Obj)} {ah : AH} {s : Shared} {I : Addr} {o o' : Obj}
theorem St.perm (hs : St c m fr ah s) (h : ∀ p ∈ fr', p ∈ fr) : St c m fr' ah s := by
  obtain ⟨vm, news, ow, F, hm, N, R⟩ := hs
  exact ⟨vm, news, ow, F, hm, N, { R with frm := fun p hp => R.frm p (h p hp), off := fun p hp => R.off p (h p hp) }⟩
noncomputable def OffF (c : Cx) (C : Addr) : Prop := ∀ x ∈ c.fs, ∀ L, x.1.frame = some L → L ≠ C
theorem St.offF (hs : St c m fr ah s) {C : Addr} (hC : s.heap.get? C = none) : OffF c C := by
  obtain ⟨vm, news, ow, F, hm, N, R⟩ := hs
  intro x hx L e q
  obtain ⟨L', o1, h1, h2, _, _⟩ := R.fss x hx
  rw [e] at h1; cases h1
  rw [← q] at hC
  rw [(N _ h2).1] at hC; cases hC
theorem St.frAdd2 (hs : St c m fr ah s) {C : Addr} {h' : Heap} (hC : s.heap.get? C = none) (hk : ∀ b x, s.heap.get? b = some x → h'.get? b = some x) (hg : h'.get? C = some o) {tk : Nat} : St c m ((C, o) :: fr) ah { s with heap := h', toks := tk } := by
  obtain ⟨vm, news, ow, F, hm, N, R⟩ := hs
  have ne : ∀ p ∈ news, p.1 ≠ C := fun p hp e => by rw [← e, (N p hp).1] at hC; cases hC
  have hCL : C ≠ c.L := fun e => by
    obtain ⟨oL, es, ep, hL, _⟩ := F.ns
    rw [e, hL] at hC; cases hC
  have hC0 : c.base.get? C = none := by
    cases e : c.base.get? C with
    | none => rfl
    | some x => have := F.keep _ _ e; rw [hC] at this; cases this
  refine ⟨vm, (C, o) :: news, fun b => if b = C then none else ow b, F.keeps hk, hm, fun p hp => ?_, ?_, ?_, ?_, ?_, ?_⟩
  · rcases List.mem_cons.mp hp with rfl | hp
    · exact ⟨hg, hCL, hC0⟩
    · exact ⟨hk _ _ (N p hp).1, (N p hp).2⟩
  · rw [List.map_cons, List.nodup_cons]
    refine ⟨fun q => ?_, R.nd⟩
    obtain ⟨p, hp, e⟩ := List.mem_map.mp q
    exact ne p hp e
  · exact fun a x e => (R.obj a x e).grow fun p hp q => ⟨List.mem_cons_of_mem _ hp, (if_neg (ne p hp)).trans q⟩
  · intro p hp
    rcases List.mem_cons.mp hp with rfl | hp
    · exact ⟨List.mem_cons_self, if_pos rfl⟩
    · exact ⟨List.mem_cons_of_mem _ (R.frm p hp).1, (if_neg (ne p (R.frm p hp).1)).trans (R.frm p hp).2⟩
  · intro x hx
    obtain ⟨L, o1, h1, h2, h3, h4⟩ := R.fss x hx
    exact ⟨L, o1, h1, List.mem_cons_of_mem _ h2, (if_neg (ne _ h2)).trans h3, h4⟩
  · intro p hp x hx q
    rcases List.mem_cons.mp hp with rfl | hp
    · obtain ⟨L, o1, h1, h2, _, _⟩ := R.fss x hx
      rw [h1] at q; cases q
      exact ne _ h2 rfl
    · exact R.off p hp x hx q
theorem St.frSet2 (hs : St c m ((I, o) :: fr) ah s) (hfr : ∀ p ∈ fr, p.1 ≠ I) (hnd : OffF c I) {h' : Heap} {tk : Nat} (hsb : Heap.SameBut I s.heap h') (hg : h'.get? I = some o') : St c m ((I, o') :: fr) ah { s with heap := h', toks := tk } := by
  obtain ⟨vm, news, ow, F, hm, N, R⟩ := hs
  obtain ⟨hI, how⟩ := R.frm _ List.mem_cons_self
  obtain ⟨pre, post, rfl, k1, k2⟩ := split_news R.nd hI
  refine ⟨vm, _, ow, F.change hsb (N _ hI).2.1 (N _ hI).2.2, hm, news_set N k1 k2 hsb hg, ?_, ?_, ?_, ?_, fun p hp => (List.mem_cons.mp hp).elim (fun z => by subst z; exact R.off (I, o) List.mem_cons_self) fun hp => R.off p (List.mem_cons_of_mem _ hp)⟩
  · have := R.nd; simpa using this
  · exact fun a x e => (R.obj a x e).grow fun p hp q => ⟨mem_replace hp fun z => (by rw [z, how] at q; cases q), q⟩
  · intro p hp
    rcases List.mem_cons.mp hp with rfl | hp
    · exact ⟨List.mem_append_right _ List.mem_cons_self, how⟩
    · exact ⟨mem_replace (R.frm p (List.mem_cons_of_mem _ hp)).1 (hfr p hp), (R.frm p (List.mem_cons_of_mem _ hp)).2⟩
  · intro x hx
    obtain ⟨L, o1, h1, h2, h3, h4⟩ := R.fss x hx
    exact ⟨L, o1, h1, mem_replace h2 (hnd x hx L h1), h3, h4⟩
theorem St.frDrop2 (hs : St c m ((I, o) :: fr) ah s) (hfr : ∀ p ∈ fr, p.1 ≠ I) (hnd : OffF c I) {h' : Heap} {tk : Nat} (hk : ∀ b x, b ≠ I → s.heap.get? b = some x → h'.get? b = some x) : St c m fr ah { s with heap := h', toks := tk } := by
  obtain ⟨vm, news, ow, F, hm, N, R⟩ := hs
  obtain ⟨hI, how⟩ := R.frm _ List.mem_cons_self
  have hLI : c.L ≠ I := (N _ hI).2.1.symm
  have key : ∀ p ∈ news, p.1 ≠ I → p ∈ news.filter (fun p => !decide (p.1 = I)) := fun p hp q => List.mem_filter.mpr ⟨hp, by simp [q]⟩
  obtain ⟨oL, es, ep, hL, r⟩ := F.ns
  refine ⟨vm, news.filter (fun p => !decide (p.1 = I)), ow, ⟨⟨oL, es, ep, hk _ _ hLI hL, r⟩, fun b x e => hk b x (fun z => ?_) (F.keep b x e), F.above⟩, hm, ?_, ?_, ?_, ?_, ?_, fun p hp => R.off p (List.mem_cons_of_mem _ hp)⟩
  · have := (N _ hI).2.2
    rw [← z, e] at this; cases this
  · intro p hp
    obtain ⟨h1, h2⟩ := List.mem_filter.mp hp
    exact ⟨hk _ _ (by simpa using h2) (N p h1).1, (N p h1).2⟩
  · exact R.nd.sublist (List.Sublist.map _ List.filter_sublist)
  · exact fun a x e => (R.obj a x e).grow fun p hp q => ⟨key p hp fun z => (by rw [z, how] at q; cases q), q⟩
  · intro p hp
    exact ⟨key p (R.frm p (List.mem_cons_of_mem _ hp)).1 (hfr p hp), (R.frm p (List.mem_cons_of_mem _ hp)).2⟩
  · intro x hx
    obtain ⟨L, o1, h1, h2, h3, h4⟩ := R.fss x hx
    exact ⟨L, o1, h1, key _ h2 (hnd x hx L h1), h3, h4⟩
theorem St.frOwn {D : Addr} {vs : List AV} {vs' : List Value} {k : Nat} (hs : St c m ((D, listOf vs'.toArray k) :: fr) ah s) (hfr : ∀ p ∈ fr, p.1 ≠ D) (hnd : OffF c D) (hr : RVs vs vs') : ah D = none ∧ St c m fr (ah.set D (.list vs)) s := by
  obtain ⟨vm, news, ow, F, hm, N, R⟩ := hs
  obtain ⟨hI, how⟩ := R.frm _ List.mem_cons_self
  have key : ∀ p ∈ news, p.1 ≠ D → (if p.1 = D then some D else ow p.1) = ow p.1 := fun p _ h => if_neg h
  refine ⟨?_, vm, news, fun b => if b = D then some D else ow b, F, hm, N, R.nd, ?_, ?_, ?_, fun p hp => R.off p (List.mem_cons_of_mem _ hp)⟩
  · cases q : ah D with
    | none => rfl
    | some x =>
      cases R.obj _ _ q with
      | list _ h2 _ => rw [how] at h2; cases h2
      | tup _ h2 _ => rw [how] at h2; cases h2
      | inst _ _ h2 _ _ => rw [how] at h2; cases h2
      | scr h1 _ =>
        obtain ⟨x, hx, _⟩ := h1
        rw [(N _ hI).2.2] at hx; cases hx
  · intro a x e
    unfold AH.set at e
    by_cases q : a = D
    · subst q
      rw [if_pos rfl] at e; cases e
      exact .list hI (if_pos rfl) hr
    · rw [if_neg q] at e
      refine (R.obj a x e).grow fun p hp hq => ⟨hp, (if_neg fun z => ?_).trans hq⟩
      rw [z, how] at hq; cases hq
  · intro p hp
    exact ⟨(R.frm p (List.mem_cons_of_mem _ hp)).1, (if_neg (hfr p hp)).trans (R.frm p (List.mem_cons_of_mem _ hp)).2⟩
  · intro x hx
    obtain ⟨L, o1, h1, h2, h3, h4⟩ := R.fss x hx
    exact ⟨L, o1, h1, h2, (if_neg (hnd x hx L h1)).trans h3, h4⟩
theorem St.getOf (hs : St c m fr ah s) {p : Addr × Obj} (h : p ∈ fr) : s.heap.get? p.1 = some p.2 := by
  obtain ⟨vm, news, ow, F, hm, N, R⟩ := hs
  exact (N _ (R.frm _ h).1).1
end


noncomputable def Ce (w : World) (n : Nat) (fe : FE) (scope : Scope) (bs : Loc) (e : Expr) (ah : AH) (Q : AV → AH → Prop) : Prop :=
  ∀ (c : Cx) (m : Loc) (fr : List (Addr × Obj)) (s : Shared) (C : Addr) (oC : Obj) (mc : Str → Option Value), c.Ok w n fe → St c m fr ah s → (C, oC) ∈ fr → NsObj oC mc → RM bs mc →
    ∀ (Qc : Value → Shared → Prop) (Ec : Value → Shared → Prop), (∀ b a ah' h tk, Q b ah' → RV b a → St c m fr ah' { s with heap := h, toks := tk } → Qc a { s with heap := h, toks := tk }) →
      wpAny (model prog w) (c.A fe) (eval e (compEnvC scope [] C (c.env fe))) Qc Ec s
noncomputable def Tgt (w : World) (n : Nat) (fe : FE) (scope : Scope) (target : Expr) (a : AV) (bs : Loc) (ah : AH) : Prop :=
  ∀ (c : Cx) (m : Loc) (fr : List (Addr × Obj)) (s : Shared) (C : Addr) (oC : Obj) (mc : Str → Option Value) (v : Value) (Q : Unit → Shared → Prop) (E : Value → Shared → Prop), c.Ok w n fe → RV a v → NsObj oC mc → OffF c C → St c m ((C, oC) :: fr) ah s → (∀ p ∈ fr, p.1 ≠ C) →
    (∀ oC' mc' h tk, NsObj oC' mc' → RM bs mc' → St c m ((C, oC') :: fr) ah { s with heap := h, toks := tk } → Q () { s with heap := h, toks := tk }) →
    wpAny (model prog w) (c.A fe) (assign target (compEnvC scope [] C (c.env fe)) v) Q E s

section
variable {w : World} {n : Nat} {fe : FE} {scope : Scope} {ah : AH} {bs : Loc} {Q : AV → AH → Prop}

theorem Ce.local {x : Str} {p : Pos} {a : AV} (hb : bs x = some a) (hk : scope.kind = .function) (hl : ∀ C L a, (compEnvC scope [] C (envOf fe.cn fe.cs L a fe.cd)).kindOf x = some .local) (hd : (x == ("__debug__" : Str)) = false) (h : Q a ah) : Ce w n fe scope bs (.Name x p) ah Q := by
  intro c m fr s C oC mc hc hs hC hN hB Qc Ec hQ
  obtain ⟨v, hv, hr⟩ := hB x a hb
  exact ldVarK (LCg.NsObj.ns (show LCg.NsObj oC mc from hN) (hs.getOf hC)) hv (hQ _ _ _ s.heap s.toks h hr hs) hk (hl _ _ _) hd
theorem Ce.global {x : Str} {p : Pos} {v : Value} {a : AV} (e : nsIn (hd.heap_1 w.params) mainGlobals x = some (some v)) (hr : RV a v) (hk : scope.kind = .function) (hl : ∀ C L a, (compEnvC scope [] C (envOf fe.cn fe.cs L a fe.cd)).kindOf x = some .globalImplicit) (hd : (x == ("__debug__" : Str)) = false) (h : Q a ah) : Ce w n fe scope bs (.Name x p) ah Q := by
  intro c m fr s C oC mc hc hs hC hN hB Qc Ec hQ
  obtain ⟨vm, news, ow, O⟩ := hs.opn
  exact LCgL.ld_global O.F hc.K hc.T e (hQ _ _ _ s.heap s.toks h hr hs) rfl hk (hl _ _ _) hd
theorem Ce.builtin {x : Str} {p : Pos} {v : Value} (e : nsIn (hd.heap_1 w.params) mainGlobals x = some none) (hv : bootBuiltins x = some v) (hn : x ≠ "__name__") (hk : scope.kind = .function) (hl : ∀ C L a, (compEnvC scope [] C (envOf fe.cn fe.cs L a fe.cd)).kindOf x = some .globalImplicit) (hd : (x == ("__debug__" : Str)) = false) (h : Q (.raw v) ah) : Ce w n fe scope bs (.Name x p) ah Q := by
  intro c m fr s C oC mc hc hs hC hN hB Qc Ec hQ
  obtain ⟨vm, news, ow, O⟩ := hs.opn
  exact LCgL.ld_built O.F hc.K hc.T e hv hn (hQ _ _ _ s.heap s.toks h (.raw v) hs) rfl rfl hk (hl _ _ _) hd
theorem Ce.int {i : Int} {k : Nat} {p : Pos} (h : Q (.int i) ah) : Ce w n fe scope bs (.Constant (.int i) k p) ah Q := by
  intro c m fr s C oC mc hc hs hC hN hB Qc Ec hQ
  exact wpAny_Constant_int (hQ _ _ ah s.heap (s.toks + 1) h (.int i _) hs)
theorem Ce.str {x : Str} {k : Nat} {p : Pos} (h : Q (.str x) ah) : Ce w n fe scope bs (.Constant (.str x) k p) ah Q := by
  intro c m fr s C oC mc hc hs hC hN hB Qc Ec hQ
  exact wpAny_Constant_str (hQ _ _ ah s.heap (s.toks + 1) h (.str x _) hs)
theorem Ce.binop {l r : Expr} {op : Operator} {p : Pos} (h : Ce w n fe scope bs l ah (fun a ah1 => Ce w n fe scope bs r ah1 (fun b ah2 => ∀ m, Bop w n fe op a b m ah2 Q (fun _ => False)))) : Ce w n fe scope bs (.BinOp l op r p) ah Q := by
  intro c m fr s C oC mc hc hs hC hN hB Qc Ec hQ
  refine wpAny_BinOp (h c m fr s C oC mc hc hs hC hN hB _ _ (fun a a' ah1 h1 tk1 q1 r1 s1 => ?_))
  refine q1 c m fr _ C oC mc hc s1 hC hN hB _ _ (fun b b' ah2 h2 tk2 q2 r2 s2 => ?_)
  exact q2 m _ _ r1 r2 c fr _ hc s2 _ _ (fun v v' m3 ah3 h3 tk3 ⟨e, q⟩ => by subst e; exact hQ v v' ah3 h3 tk3 q) fun e ah' h' tk' f => f.elim
theorem Ce.call1 {func e : Expr} {pos : Pos} (hs' : CallShape func [e] pos) (he : NoStar e) (h : Ce w n fe scope bs func ah (fun v ah1 => ∃ f, IsFn w v f ∧ Ce w n fe scope bs e ah1 (fun a ah2 => Fn w n f [a] ah2 Q (fun _ => False)))) : Ce w n fe scope bs (.Call func [e] [] pos) ah Q := by
  intro c m fr s C oC mc hc hs hC hN hB Qc Ec hQ
  refine Call_ (h c m fr s C oC mc hc hs hC hN hB _ _ (fun v v' ah1 h1 tk1 q1 r1 s1 => ?_)) (hs' _)
  obtain ⟨f, ⟨rfl, k⟩, q1⟩ := q1
  cases r1
  refine callWith_args (P := (hd.heap_1 w.params).In) he rfl k.keeps ?_
  rw [he]
  show wpAny _ _ (spliced [(false, eval e _)]) _ _ _
  refine spliced_cons (q1 c m fr _ C oC mc hc s1 hC hN hB _ _ (fun a a' ah2 h2 tk2 q2 r2 s2 => spliced_nil ?_))
  obtain ⟨vm, news, ow, O⟩ := s2.opn
  exact ⟨hc.K.keeps O.F.keep, q2 fe m [a'] (.cons r2 .nil) c fr _ hc s2 _ _ (fun v v' m3 ah3 h3 tk3 ⟨e, q⟩ => by subst e; exact hQ v v' ah3 h3 tk3 q) fun e ah' h' tk' f => f.elim⟩
theorem Ce.meth1 {o e : Expr} {x : Str} {apos pos : Pos} {pl : Env → Sem Bool} (hs' : MethShape o x apos [e] pos pl) (he : NoStar e) (h : Ce w n fe scope bs o ah (fun v ah1 => ∃ f, Meth w ah1 v x f ∧ Ce w n fe scope bs e ah1 (fun a ah2 => Fn w n f [v, a] ah2 Q (fun _ => False)))) : Ce w n fe scope bs (.Call (.Attribute o x apos) [e] [] pos) ah Q := by
  intro c m fr s C oC mc hc hs hC hN hB Qc Ec hQ
  refine MethodCall_ (h c m fr s C oC mc hc hs hC hN hB _ _ (fun v v' ah1 h1 tk1 q1 r1 s1 => ?_)) (hs' _)
  obtain ⟨f, M, q1⟩ := q1
  refine M.get r1 hc s1 ?_
  refine callWith_args (P := (hd.heap_1 w.params).In) he rfl M.keep.keeps ?_
  rw [he]
  show wpAny _ _ (spliced [(false, eval e _)]) _ _ _
  refine spliced_cons (q1 c m fr _ C oC mc hc s1 hC hN hB _ _ (fun a a' ah2 h2 tk2 q2 r2 s2 => spliced_nil ?_))
  obtain ⟨vm, news, ow, O⟩ := s2.opn
  exact ⟨hc.K.keeps O.F.keep, q2 fe m [v', a'] (.cons r1 (.cons r2 .nil)) c fr _ hc s2 _ _ (fun v v' m3 ah3 h3 tk3 ⟨e, q⟩ => by subst e; exact hQ v v' ah3 h3 tk3 q) fun e ah' h' tk' f => f.elim⟩

theorem NsObj.storeC {c : Cx} {m : Loc} {fr : List (Addr × Obj)} {s : Shared} {C : Addr} {oC : Obj} {mc : Str → Option Value} {x : Str} {v : Value} {E : Value → Shared → Prop} {Q : Unit → Shared → Prop} (hk : scope.kind = .function) (hx : scope.names.lookup x = some .local)
    (hN : NsObj oC mc) (hF : OffF c C) (hs : St c m ((C, oC) :: fr) ah s) (hfr : ∀ p ∈ fr, p.1 ≠ C)
    (hQ : ∀ oC' h tk, NsObj oC' (fun y => if y = x then some v else mc y) → St c m ((C, oC') :: fr) ah { s with heap := h, toks := tk } → Q () { s with heap := h, toks := tk }) {p : Pos} :
    wpAny (model prog w) (c.A fe) (assign (.Name x p) (compEnvC scope [] C (c.env fe)) v) Q E s := by
  refine wpAny_assign_Name (wpAny_storeName_local (lookup_relabel_local hx) (LCg.NsObj.ns (show LCg.NsObj oC mc from hN) (hs.getOf List.mem_cons_self)) (fun h₃ hn₃ hs₃ => ?_) (by simp [compEnvC, relabel, hk]))
  obtain ⟨o3, ho3, hN3⟩ := LCg.ns_obj hn₃
  exact hQ o3 h₃ _ hN3 (hs.frSet2 hfr hF hs₃ ho3)
theorem Tgt.name {x : Str} {p : Pos} {a : AV} (hk : scope.kind = .function) (hx : scope.names.lookup x = some .local) : Tgt w n fe scope (.Name x p) a (fun z => if z = x then some a else none) ah := by
  intro c m fr s C oC mc v Q E hc hr hN hF hs hfr hQ
  refine NsObj.storeC hk hx hN hF hs hfr fun oC' h tk hN' hs' => hQ oC' _ h tk hN' ?_ hs'
  intro y b e
  dsimp only at e ⊢
  by_cases q : y = x
  · rw [if_pos q] at e; cases e; exact ⟨v, if_pos q, hr⟩
  · rw [if_neg q] at e; cases e
theorem Tgt.pair {x x₂ : Str} {p p₂ tp : Pos} {k : Nat} {t : Addr} {a b : AV} (hk : scope.kind = .function) (hx : scope.names.lookup x = some .local) (hx₂ : scope.names.lookup x₂ = some .local) (et : ah t = some (.tup [a, b])) : Tgt w n fe scope (.Tuple [.Name x p, .Name x₂ p₂] k tp) (.ref t) (fun z => if z = x₂ then some b else if z = x then some a else none) ah := by
  intro c m fr s C oC mc v Q E hc hr hN hF hs hfr hQ
  cases hr
  obtain ⟨vm, news, ow, O⟩ := hs.opn
  obtain ⟨vs', h1, h2⟩ := O.isTup et
  obtain ⟨u, u₂, rfl, hu, hu₂⟩ := h2.inv2
  refine assign_Tuple_tuple (show (c.A fe).handled = none from hc.hh) h1 rfl rfl fun h₅ he => ?_
  have s5 : St c m ((C, oC) :: fr) ah { s with heap := h₅ } := hs.keeps (tk := s.toks) fun b o e => he b o (Nat.ne_of_lt (Heap.lt_size e)) e
  refine assignInOrder_cons (NsObj.storeC hk hx hN hF s5 hfr fun oC1 g1 tk1 hN1 hs1 => ?_)
  refine assignInOrder_cons (NsObj.storeC hk hx₂ hN1 hF hs1 hfr fun oC2 g2 tk2 hN2 hs2 => ?_)
  refine assignInOrder_nil (hQ oC2 _ g2 tk2 hN2 ?_ hs2)
  intro y d e
  dsimp only at e ⊢
  by_cases q : y = x₂
  · rw [if_pos q] at e; cases e; exact ⟨u₂, if_pos q, hu₂⟩
  · rw [if_neg q] at e
    by_cases q' : y = x
    · rw [if_pos q'] at e; cases e; exact ⟨u, (if_neg q).trans (if_pos q'), hu⟩
    · rw [if_neg q'] at e; cases e

end

section
variable {w : World} {n : Nat} {fe : FE} {scope : Scope}


theorem comp_turn {c : Cx} {m : Loc} {fr : List (Addr × Obj)} {ah : AH} {s₀ : Shared} {I C D ax : Addr} {vs ys : List AV} {target elt : Expr} {R : Result → Shared → Prop} {EE : Value → Shared → Prop} {bs : AV → Loc}
    (hc : c.Ok w n fe) (hIa : ax ≠ I) (e : ah ax = some (.list vs)) (hz : vs.length ≤ 100000) (hl : ys.length = vs.length)
    (hIC : I ≠ C) (hID : I ≠ D) (hCD : C ≠ D) (hfI : ∀ p ∈ fr, p.1 ≠ I) (hfC : ∀ p ∈ fr, p.1 ≠ C) (hfD : ∀ p ∈ fr, p.1 ≠ D) (hFC : OffF c C) (hFD : OffF c D) (hFI : OffF c I)
    (ht : (∀ it v, letOwnedTupleGo target it v = Pure.pure ()) ∨ (∃ es k p, target = .Tuple es k p ∧ ∀ x ∈ vs, ∃ b, x = .ref b))
    (htg : ∀ (i : Nat) x, vs[i]? = some x → Tgt w n fe scope target x (bs x) ah)
    (hel : ∀ (i : Nat) a b, vs[i]? = some a → ys[i]? = some b → Ce w n fe scope (bs a) elt ah (fun r ah2 => r = b ∧ ah2 = ah))
    (hend : ∀ ys' h tk, RVs ys ys' → ∀ oC mc, NsObj oC mc → St c m ((C, oC) :: (D, LCg.lst ys') :: fr) ah { s₀ with heap := h, toks := tk } → R (.ok .next) { s₀ with heap := h, toks := tk })
    (k : Nat) (s : Shared) (hI : ∃ i o' oC mc ys' h' tk, s = { s₀ with heap := h', toks := tk } ∧ i ≤ vs.length ∧ k = vs.length + 1 - i ∧ listIt ax i o' ∧ NsObj oC mc ∧ RVs (ys.take i) ys' ∧ St c m ((I, o') :: (C, oC) :: (D, LCg.lst ys') :: fr) ah s) :
    wpAny (model prog w) (c.A fe) (pyNext (.ref I)) (fun r s₁ => match r with
      | none => R (.ok .next) s₁
      | some v => wpAny (model prog w) (c.A fe) (assign target (compEnvC scope [] C (c.env fe)) v) (fun _ s₂ =>
          wpAny (model prog w) (c.A fe) (eval elt (compEnvC scope [] C (c.env fe))) (fun x s₄ =>
              wpAny (model prog w) (c.A fe) (call (.builtin "list.append") [.ref D, x]) (fun _ s₅ => ∃ j, j < k ∧ ∃ i o' oC mc ys' h' tk, s₅ = { s₀ with heap := h', toks := tk } ∧ i ≤ vs.length ∧ j = vs.length + 1 - i ∧ listIt ax i o' ∧ NsObj oC mc ∧ RVs (ys.take i) ys' ∧ St c m ((I, o') :: (C, oC) :: (D, LCg.lst ys') :: fr) ah s₅) EE s₄) EE s₂)
          EE s₁ ∧ (∀ E'' Q'', Q'' () s₁ → wpAny (model prog w) (c.A fe) (letOwnedTupleGo target (.ref I) v) Q'' E'' s₁)) EE s := by
  obtain ⟨i, o', oC, mc, ys', h', tk, rfl, hi, rfl, hIt, hN, hys, hs⟩ := hI
  have W := iter_list (w := w) (n := n) (fe := fe) hIa ht
  have fI : ∀ p ∈ (C, oC) :: (D, LCg.lst ys') :: fr, p.1 ≠ I := by
    intro p hp
    rcases List.mem_cons.mp hp with rfl | hp
    · exact hIC.symm
    · rcases List.mem_cons.mp hp with rfl | hp
      · exact hID.symm
      · exact hfI p hp
  by_cases hlt : i < vs.length
  · refine W.item i c m _ ah _ o' hc hs fI hIt e hlt _ _ fun x v o2 h2 tk2 hP hv hIt2 s2 hlet => ?_
    refine ⟨?_, hlet⟩
    have fC : ∀ p ∈ (I, o2) :: (D, LCg.lst ys') :: fr, p.1 ≠ C := by
      intro p hp
      rcases List.mem_cons.mp hp with rfl | hp
      · exact hIC
      · rcases List.mem_cons.mp hp with rfl | hp
        · exact hCD.symm
        · exact hfC p hp
    refine htg i x hP c m ((I, o2) :: (D, LCg.lst ys') :: fr) _ C oC mc v _ _ hc hv hN hFC (s2.perm (by intro p hp; simp only [List.mem_cons] at hp ⊢; rcases hp with h | h | h | h <;> simp [h])) fC fun oC2 mc2 h3 tk3 hN2 hB s3 => ?_
    obtain ⟨b, hb⟩ : ∃ b, ys[i]? = some b := ⟨_, List.getElem?_eq_getElem (by omega)⟩
    refine hel i x b hP hb c m _ _ C oC2 mc2 hc s3 List.mem_cons_self hN2 hB _ _ fun r r' ah4 h4 tk4 q4 r4 s4 => ?_
    obtain ⟨rfl, rfl⟩ := q4
    have hD : h4.get? D = some (LCg.lst ys') := s4.getOf (p := (D, LCg.lst ys')) (by simp)
    have hlen := hys.length
    rw [List.length_take] at hlen
    refine append_at (hsz := by rw [sizeLine_eq]; simp; omega) hD fun h5 hs5 hD5 => ?_
    have fD : ∀ p ∈ (I, o2) :: (C, oC2) :: fr, p.1 ≠ D := by
      intro p hp
      rcases List.mem_cons.mp hp with rfl | hp
      · exact hID
      · rcases List.mem_cons.mp hp with rfl | hp
        · exact hCD
        · exact hfD p hp
    have s4' : St c m ((D, LCg.lst ys') :: (I, o2) :: (C, oC2) :: fr) ah4 { s₀ with heap := h4, toks := tk4 } := s4.perm (by intro p hp; simp only [List.mem_cons] at hp ⊢; rcases hp with h | h | h | h <;> simp [h])
    have s5 : St c m ((D, LCg.lst (ys' ++ [r'])) :: (I, o2) :: (C, oC2) :: fr) ah4 { s₀ with heap := h5, toks := tk4 } := s4'.frSet2 fD hFD hs5 (hD5.trans (congrArg some (LCg.lst_snoc ys' r')))
    refine ⟨vs.length + 1 - (i + 1), by omega, i + 1, o2, oC2, mc2, ys' ++ [r'], h5, tk4, rfl, hlt, rfl, hIt2, hN2, ?_, s5.perm (by intro p hp; simp only [List.mem_cons] at hp ⊢; rcases hp with h | h | h | h <;> simp [h])⟩
    rw [List.take_add_one, hb]
    exact hys.append (.cons r4 .nil)
  · obtain rfl : i = vs.length := by omega
    refine W.done c m _ ah _ o' hc hs fI hIt e _ _ fun h2 tk2 s2 => ?_
    rw [List.take_of_length_le (by omega)] at hys
    exact hend ys' h2 tk2 hys oC mc hN s2
end

theorem comp_loop {w : World} {A : Around} {elt target iter : Expr} {scope : Scope} {pos : Pos} {it acc : Value} {env : Env} {R : Result → Shared → Prop} (I : Nat → Shared → Prop)
    (turn : ∀ n s, I n s → wpAny (model prog w) A (pyNext it) (fun r s₁ => match r with
      | none => R (.ok .next) s₁
      | some v => wpAny (model prog w) A (assign target env v) (fun _ s₂ =>
          wpAny (model prog w) A (eval elt env) (fun x s₄ =>
              wpAny (model prog w) A (call (.builtin "list.append") [acc, x]) (fun _ s₅ => ∃ m, m < n ∧ I m s₅) (notedBy (model prog w) A env fun e s' => R (.error e) s') s₄) (notedBy (model prog w) A env fun e s' => R (.error e) s') s₂)
          (notedBy (model prog w) A env fun e s' => R (.error e) s') s₁ ∧ (∀ E'' Q'', Q'' () s₁ → wpAny (model prog w) A (letOwnedTupleGo target it v) Q'' E'' s₁)) (notedBy (model prog w) A env fun e s' => R (.error e) s') s)
    (n : Nat) {s : Shared} (h : I n s) : codeAny (model prog w) A (.compLoop (.ListComp elt [⟨target, iter, [], 0⟩] scope pos) 0 it acc env) R s := by
  refine codeAny_loop rfl I (fun n s hI => ?_) n h
  show wpAny _ A ((compTurn (.ListComp elt [⟨target, iter, [], 0⟩] scope pos) 0 it acc env).onRaise (fun x => do noteFrame x env; theTreesLotGoes x)) _ _ s
  refine wpAny_noted ?_
  rw [compTurn_list]
  refine wpAny_bind (wpAny_standAt (wpAny_bind (wpAny_mono (turn n s hI) (fun r s₁ h₁ => ?_) fun _ _ h' => h')))
  cases r with
  | none => exact wpAny_pure h₁
  | some v =>
    obtain ⟨h₁, hlet⟩ := h₁
    refine wpAny_bind (hlet _ _ ?_)
    refine wpAny_bind (wpAny_mono h₁ (fun _ s₂ h₂ => wpAny_bind (wpAny_mono (wpAny_tests_nil (Q := fun ok s₃ => ok = true ∧ s₃ = s₂) ⟨rfl, rfl⟩) (fun ok s₃ h₃ => ?_) fun _ _ h' => h')) fun _ _ h' => h')
    obtain ⟨rfl, rfl⟩ := h₃
    exact wpAny_bind (wpAny_bind (wpAny_mono h₂ (fun x s₄ h₄ => wpAny_bind (wpAny_mono h₄ (fun _ s₅ h₅ => wpAny_pure (wpAny_pure ⟨rfl, h₅⟩)) fun _ _ h' => h')) fun _ _ h' => h'))

section
variable {w : World} {n : Nat} {fe : FE} {m : Loc} {ah : AH} {X : AH → Prop} {Q : AV → AH → Prop}

theorem Ev.comp {target elt iter : Expr} {scope : Scope} {pos : Pos} (hfree : ∀ y ∈ scope.names, y.2 ≠ .free) (hcell : ∀ y ∈ scope.names, y.2 ≠ .cell) (hkind : scope.kind = .function)
    (hnames : ∀ y ∈ scope.names, y.2 = .local → scope.names.lookup y.1 = some .local) (hfold : ∀ env x, foldedSetIterable iter env x = Pure.pure x)
    (h : Ev w n fe iter m ah (fun v ah1 => ∃ ax vs ys, v = .ref ax ∧ ah1 ax = some (.list vs) ∧ vs.length ≤ 100000 ∧ ys.length = vs.length ∧ ((∀ it v, letOwnedTupleGo target it v = Pure.pure ()) ∨ (∃ es k p, target = .Tuple es k p ∧ ∀ x ∈ vs, ∃ b, x = .ref b)) ∧
      (∃ bs : AV → Loc, (∀ (i : Nat) x, vs[i]? = some x → Tgt w n fe scope target x (bs x) ah1) ∧ ∀ (i : Nat) a b, vs[i]? = some a → ys[i]? = some b → Ce w n fe scope (bs a) elt ah1 (fun r ah2 => r = b ∧ ah2 = ah1)) ∧
      ∀ D, ah1 D = Option.none → Q (.ref D) (ah1.set D (.list ys))) X) :
    Ev w n fe (.ListComp elt [⟨target, iter, [], 0⟩] scope pos) m ah Q X := by
  intro c fr s hc hst Qc Ec hQ hE
  rw [eval_ListComp]
  refine wpAny_comprehension_free (use := Option.none) rfl (hfold _) (closureFor_none hfree) hkind hnames (h c fr s hc hst _ _ (fun v v' m1 ah1 h1 tk1 q1 r1 s1 => ?_) hE)
  obtain ⟨rfl, ax, vs, ys, rfl, e, hz, hl, ht, ⟨bs, htg, hel⟩, hfin⟩ := q1
  cases r1
  obtain ⟨vm, news, ow, O⟩ := s1.opn
  obtain ⟨vs', k1, k2⟩ := O.isList e
  refine wpAny_pyIter_list k1 ?_
  have hg1 : h1.get? h1.objs.size = Option.none := Heap.get?_none_of_le (Nat.le_refl _)
  obtain ⟨s2, hfI⟩ := s1.frAdd (o := { cls := Value.type "list_iterator", data := Data.fields #[Value.ref ax, Value.int 0 0] }) (tk := tk1) rfl
  have hFI : OffF c h1.objs.size := s1.offF hg1
  have hIa : ax ≠ h1.objs.size := by
    obtain ⟨o, ho, _⟩ := k1
    exact Nat.ne_of_lt (Heap.lt_size ho)
  revert s2 hfI hFI hIa hg1
  generalize hI : h1.objs.size = I
  intro hg1 s2 hfI hFI hIa
  dsimp only at s2 ⊢
  generalize hH2 : Heap.push h1 { cls := Value.type "list_iterator", data := Data.fields #[Value.ref ax, Value.int 0 0] } = H2 at s2 ⊢
  have hI2 : H2.get? I = some { cls := Value.type "list_iterator", data := Data.fields #[Value.ref ax, Value.int 0 0] } := s2.getOf List.mem_cons_self
  have hg2 : H2.get? H2.objs.size = Option.none := Heap.get?_none_of_le (Nat.le_refl _)
  refine wpAny_newObj_type (wpAny_newFunctionEnv hcell (by intro y hy; simp at hy) (fun h₁ hns₁ hsb₁ => ?_) hkind)
  obtain ⟨s3, hfD⟩ := s2.frAdd (o := { cls := Value.type "list", data := Data.seq ([] : List Value).toArray }) (tk := tk1) rfl
  have hFD : OffF c H2.objs.size := s2.offF hg2
  have hID : I ≠ H2.objs.size := Nat.ne_of_lt (Heap.lt_size hI2)
  dsimp only at hns₁ hsb₁ s3 hfD hFD hID ⊢
  revert s3 hfD hFD hID
  generalize hD : H2.objs.size = D
  intro s3 hfD hFD hID
  generalize hH3 : Heap.push H2 { cls := Value.type "list", data := Data.seq ([] : List Value).toArray } = H3 at hns₁ hsb₁ s3 ⊢
  have hD3 : H3.get? D = some { cls := Value.type "list", data := Data.seq ([] : List Value).toArray } := s3.getOf List.mem_cons_self
  have hI3 : H3.get? I = some { cls := Value.type "list_iterator", data := Data.fields #[Value.ref ax, Value.int 0 0] } := s3.getOf (p := (I, _)) (List.mem_cons_of_mem _ List.mem_cons_self)
  have hg3 : H3.get? H3.objs.size = Option.none := Heap.get?_none_of_le (Nat.le_refl _)
  have hFC : OffF c H3.objs.size := s3.offF hg3
  have hDC : D ≠ H3.objs.size := Nat.ne_of_lt (Heap.lt_size hD3)
  have hIC : I ≠ H3.objs.size := Nat.ne_of_lt (Heap.lt_size hI3)
  have hfC : ∀ p ∈ fr, p.1 ≠ H3.objs.size := fun p hp => Nat.ne_of_lt (Heap.lt_size (s3.getOf (List.mem_cons_of_mem _ (List.mem_cons_of_mem _ hp))))
  obtain ⟨oC, hoC, hNC⟩ := LCg.ns_obj hns₁
  have old : ∀ b x, H3.get? b = some x → h₁.get? b = some x := fun b x e' => hsb₁.extBut b x (Nat.ne_of_lt (Heap.lt_size e')) (Heap.get?_push_of_some _ e')
  have s4 := s3.frAdd2 (o := oC) (h' := h₁) hg3 old hoC (tk := tk1 + ([] : List (Str × Value)).length)
  have hfI' : ∀ p ∈ fr, p.1 ≠ I := hfI
  have hfD' : ∀ p ∈ fr, p.1 ≠ D := fun p hp => hfD p (List.mem_cons_of_mem _ hp)
  revert s4 hFC hDC hIC hfC
  generalize H3.objs.size = C
  intro hFC hDC hIC hfC s4
  have loop : ∀ s₃ : Shared, s₃ = { s with heap := h₁, toks := tk1 + ([] : List (Str × Value)).length } → codeAny (model prog w) (c.A fe) (.compLoop (.ListComp elt [⟨target, iter, [], 0⟩] scope pos) 0 (.ref I) (.ref D) (compEnvC scope [] C (c.env fe))) (compPost (model prog w) (c.A fe) Ec Option.none Qc (.ref D) C) s₃ := by
    rintro s₃ rfl
    refine comp_loop (fun k s' => ∃ i o' oC mc ys' h' tk, s' = { s with heap := h', toks := tk } ∧ i ≤ vs.length ∧ k = vs.length + 1 - i ∧ listIt ax i o' ∧ NsObj oC mc ∧ RVs (ys.take i) ys' ∧ St c _ ((I, o') :: (C, oC) :: (D, LCg.lst ys') :: fr) ah1 s')
      (fun k s' hI => comp_turn (s₀ := s) hc hIa e hz hl hIC hID hDC.symm hfI' hfC hfD' hFC hFD hFI ht htg hel (fun ys' h2 tk2 hys oC2 mc2 hN2 s5 => ?_) k s' hI) (vs.length + 1)
      ⟨0, { cls := Value.type "list_iterator", data := Data.fields #[Value.ref ax, Value.int 0 0] }, oC, _, [], h₁, _, rfl, Nat.zero_le _, rfl, ⟨rfl, rfl⟩, hNC, by rw [List.take_zero]; exact .nil, s4.perm (by intro p hp; simp only [List.mem_cons] at hp ⊢; rcases hp with h | h | h | h <;> simp [h])⟩
    refine ⟨mc2, LCg.NsObj.ns (show LCg.NsObj oC2 mc2 from hN2) (s5.getOf List.mem_cons_self), fun h6 hs6 => ?_⟩
    have fC : ∀ p ∈ (D, LCg.lst ys') :: fr, p.1 ≠ C := by
      intro p hp
      rcases List.mem_cons.mp hp with rfl | hp
      · exact hDC
      · exact hfC p hp
    have s6 : St c _ ((D, LCg.lst ys') :: fr) ah1 { s with heap := h6, toks := tk2 } := s5.frDrop2 fC hFC (fun b x hb e' => hs6.extBut b x hb e')
    obtain ⟨g1, g2⟩ := s6.frOwn hfD' hFD hys
    exact hQ _ _ _ _ h6 tk2 ⟨rfl, hfin D g1⟩ (.ref D) g2
  refine codeAny_compStart_list (loop _ rfl) ?_
  have s4I : h₁.get? I = some { cls := Value.type "list_iterator", data := Data.fields #[Value.ref ax, Value.int 0 0] } := old _ _ hI3
  exact wpAny_pyIter_listiter (i := 0) ⟨_, s4I, rfl, rfl⟩ (loop _ rfl)
end

noncomputable abbrev excObj (C t : Addr) : Obj := { cls := .ref C, data := .fields #[.ref t, .none, .none, .none, .bool false, .none] }

structure ExcBases (C : Addr) (bm : List Value) : Prop where
  e : (Value.ref C :: bm).contains (.type "Exception") = true
  b : (Value.ref C :: bm).contains (.type "BaseException") = true
  a : (Value.ref C :: bm).contains (.type "AttributeError") = false
  n : (Value.ref C :: bm).contains (.type "NameError") = false
  c : (Value.ref C :: bm).contains (.ref C) = true

section
variable {w : World} {A : Around} {R : Result → Shared → Prop} {h : Heap} {g : Array GenState} {d : Drawn} {t : Nat} {os : OsState}
variable {nm q : Str} {C N : Addr} {bs bm : List Value} {hdct : Bool} {sn : List Str} {sub : List Value} {ab : Bool} {col : Option Bool} {dd : Option Addr} {k0 k1 k2 k3 k5 : Option Value}

theorem exc_new {rest : List Value} (hC : h.get? C = some (excClassObj nm q C N bs bm hdct sn sub ab col dd k0 k1 k2 k3 k5 "Exception.__new__")) (X : ExcBases C bm)
    (hq : R (.ok (.ret (.ref (h.objs.size + 1)))) ⟨(h.push { cls := .type "tuple", data := .seq rest.toArray }).push (excObj C h.objs.size), g, d, t, os⟩) (hrest : rest.length ≤ sizeLine) :
    codeAny (model prog w) A (.call (.builtin "Exception.__new__") ⟨.ref C :: rest, []⟩) R ⟨h, g, d, t, os⟩ := by
  have F := PySem.F.excBase_Exception
  obtain ⟨hE, hB, hA, hN, hself⟩ := X
  have hends := F.ends
  have hstar := F.noStar
  refine codeAny_call_builtin_code (Code.quiet_builtin _ F.quiet) ?_
  have chk : ∀ {M : Model} {A : Around} {E : Value → Shared → Prop} {Q : Unit → Shared → Prop}, Q () ⟨h, g, d, t, os⟩ → wpAny M A (checkBuiltinCall "Exception.__new__" ⟨.ref C :: rest, []⟩) Q E ⟨h, g, d, t, os⟩ := by
    intro M A E Q hq
    simp only [checkBuiltinCall, F.newKind, F.newSplit, F.newRow]
    repeat (first | refine wpAny_loadPart_at hC ?_ | (refine wpAny_isSubtype_exc hC ?_; rw [hE]) | refine wpAny_staticBase_exc hC ?_ | refine wpAny_madeBy_exc hC ?_ | simp only [bne_self_eq_false, Bool.false_eq_true, if_false] | wp_step)
    exact hq
  refine chk ?_
  refine codeAny_builtinAt F.entry ?_
  unfold Builtin.«BaseException.__new__»
  refine PySem.wpAt_bind ?_
  show PySem.wpAt _ _ _ (stack >>= _) _ _ _
  refine PySem.wpAt_bind (PySem.wpAt_stack fun p below => PySem.wpAt_of_wpAny ?_)
  wp_walk
  refine PySem.wpAt_of_wpAny ?_
  rw [F.owner]
  repeat (first | with_reducible refine wpAny_madeHere_exc F.canon hC ?_ | with_reducible refine wpAny_loadPart_at hC ?_ | (with_reducible refine wpAny_isSubtype_exc hC ?_; first | rw [hE] | rw [hA] | rw [hN]) | wp_step)
  show R _ _
  rw [Heap.size_push]
  exact hq

theorem exc_core {K : Frag} {rest : List Value} {f : Addr} (X : K.In h) (hC : h.get? C = some (excClassObj nm q C N bs bm hdct sn sub ab col dd k0 k1 k2 k3 k5 "Exception.__new__")) (XB : ExcBases C bm)
    (hi : findIn K (.ref C) "__init__" = some (some (.ref f))) (hf : typeIn K (.ref f) = some (.type "function")) (hsp : specialIn K (.ref C) "__call__" = some (some (.builtin "type.__call__"))) (hty : instIn K (.ref C) (.type "type") = some true)
    (hself : mroIn K C (.ref C) = some true) (hrest : rest.length ≤ sizeLine)
    (hq : codeAny (model prog w) (A.under (.builtin "type.__call__" ⟨.ref C :: rest, []⟩)) (.call (.ref f) ⟨.ref (h.objs.size + 1) :: rest, []⟩) (InitBack (h.objs.size + 1) R) ⟨(h.push { cls := .type "tuple", data := .seq rest.toArray }).push (excObj C h.objs.size), g, d, t, os⟩) :
    codeAny (model prog w) A (.call (.ref C) ⟨rest, []⟩) R ⟨h, g, d, t, os⟩ := by
  have call := looks_specialIn (M := model prog w) X hsp
  have typ := looks_instIn (M := model prog w) X hty
  have self := looks_mroIn (M := model prog w) X hself
  have hI := looks_findIn (M := model prog w) X hi
  have hb : ∀ self, Looks (model prog w) h (bindSpecial (.ref f) self) (.ref f, [self]) := fun self => bind_fn X self hf
  have made : Looks (model prog w) h (Bind.madeBy (.ref C)) (some "Exception.__new__") := by
    intro A Q E s k q
    obtain ⟨h', g', d', t', os'⟩ := s
    exact wpAny_madeBy_exc (k _ _ hC) q
  refine codeAny_of_tree ?_
  show wpAny _ _ (callAny (.ref C) _) _ _ _
  refine nd_load hC ?_
  show wpAny _ _ (callAny.viaDunder (.ref C) _) _ _ _
  unfold callAny.viaDunder
  refine wpAny_bind (call.at ?_)
  dsimp only
  rw [tc_bind]
  refine wpAny_bind (wpAny_pure (wpAny_bind (wpAny_pure ?_)))
  refine wpAny_pure (a := Fin.again (.call (.builtin "type.__call__") ⟨.ref C :: rest, []⟩)) (And.intro rfl ?_)
  refine codeAny_call_builtin_at (Code.quiet_builtin _ (by decide +kernel)) entry_typeCall (check_slot tc_kind tc_split typ (tc_args _ _ _) ?_)
  unfold Builtin.«type.__call__»
  have hm : Looks (model prog w) h (mroOf (.ref C)) (.ref C :: bm) := ((Looks.ld (part := none) hC).andThen .now).andThen .now
  repeat (first | simp only [List.isEmpty_cons, Bool.false_eq_true, if_false] | with_reducible refine wpAny_call ?_ | lk)
  refine exc_new hC XB ?_ hrest
  have k : ∀ b o, h.get? b = some o → ((h.push { cls := .type "tuple", data := .seq rest.toArray }).push (excObj C h.objs.size)).get? b = some o := fun b o e => Heap.get?_push_of_some _ (Heap.get?_push_of_some _ e)
  have hx : ((h.push { cls := .type "tuple", data := .seq rest.toArray }).push (excObj C h.objs.size)).get? (h.objs.size + 1) = some (excObj C h.objs.size) := by heap_get
  have t1 : Looks (model prog w) ((h.push { cls := .type "tuple", data := .seq rest.toArray }).push (excObj C h.objs.size)) (typeOf (.ref (h.objs.size + 1))) (.ref C) := (Looks.ld hx).andThen .now
  have s1 := self.keeps k
  have i1 := hI.keeps k
  have b1 := (hb (.ref (h.objs.size + 1))).keeps k
  unfold isInstance callSpecial? specialOf
  repeat (first | with_reducible refine wpAny_call ?_ | lk)
  refine codeAny_mono hq fun r s' z => ?_
  rcases r with e | (v | _ | _ | _) <;> first | exact z | exact z.elim | skip
  obtain ⟨rfl, z⟩ := z
  exact wpAny_pure (wpAny_pure z)
end

section
open PySem.Builtin PySem.Builtin.ObjectAttr
theorem fill0 (w : World) : hd.heap_1 w.params = hd.heap_1 w.params ∧ PySem.Challenge.rw_np0243_01.foot = PySem.Challenge.rw_np0243_01.foot := by
  k_fill
  exact ⟨rfl, rfl⟩


noncomputable def ExcIn (h0 h : Heap) (e C t : Addr) (ns : List Str) : Prop :=
  (∀ b o, b ≠ e → h0.get? b = some o → h.get? b = some o) ∧ ∃ od, h.get? e = some { cls := .ref C, dict := od, data := .fields #[.ref t, .none, .none, .none, .bool false, .none] } ∧
    (od = none ∨ ∃ d mA, od = some d ∧ d ≠ e ∧ h0.get? d = none ∧ h.Ns1 d mA ∧ PySem.Within mA ns)

theorem refuse_exc (self : Value) {C B : Addr} : refuseLoop self "__setattr__" [.ref C, .ref B, .type "Exception", .type "BaseException", .type "object"] = pure () := by
  rw [refuseLoop_ref, refuseLoop_ref]; exact PySem.F.store_Exception.passes self

section
variable {w : World} {A : Around} {E : Value → Shared → Prop} {R : Result → Shared → Prop} {s : Shared} {K : Frag} {C B e t : Addr} {h0 : Heap} {name : Str} {v : Value} {ns : List Str}
theorem exc_store {cd : ClassData} {tk : Tok} (X : K.In s.heap) (hcd : clsIn K C = some cd) (hmro : cd.mro = [.ref C, .ref B, .type "Exception", .type "BaseException", .type "object"]) (hdct : cd.hasDict = true)
    (ht : takerIn K C name = some none) (I : ExcIn h0 s.heap e C t ns) (hz : ns.length ≤ 10)
    (hq : ∀ h' tk', ExcIn h0 h' e C t (name :: ns) → R (.ok (.ret .none)) { s with heap := h', toks := tk' }) :
    codeAny (model prog w) A (.call (.builtin "object.__setattr__") ⟨[.ref e, .str name tk, v], []⟩) R s := by
  have SF := PySem.F.store_object
  obtain ⟨hk, od, he, hd⟩ := I
  obtain ⟨hp, g, d, tk0, os⟩ := s
  have tp : Looks (model prog w) hp (typeOf (.ref e)) (.ref C) := (Looks.ld he).andThen .now
  have sub : Looks (model prog w) hp (isInstance (.ref e) (.type "object")) true := tp.andThen (looks_mroIn X (by unfold mroIn; rw [hcd, Option.bind_some, hmro, if_neg (by simp)]; rfl))
  refine codeAny_call_builtin SF.slot.plain SF.entry (check_slot (i := "object.__setattr__") (owner := "object") (n := "__setattr__") (self := .ref e) (rest := [.str name tk, v]) SF.kind SF.split sub (SF.args (.ref e) (.str name tk) v) ?_)
  obtain ⟨attr, ha, hr⟩ := Option.bind_eq_some_iff.mp ht
  have hm : Looks (model prog w) hp (mroOf (.ref C)) cd.mro := (looks_clsIn X hcd).andThen .now
  have L3 : Looks (model prog w) hp (storeTaker? attr) none := by
    cases attr with
    | none => exact .now
    | some a =>
      obtain ⟨b, hb, q⟩ := Option.map_eq_some_iff.mp hr
      refine (looks_takesIn X hb).andThen ?_
      cases b with
      | false => exact .now
      | true => cases q
  have hh' : Looks (model prog w) hp (classData C) cd := looks_clsIn X hcd
  rw [osa_eq, refuse_eq]
  refine wpAny_bind (wpAny_bind (tp.here (wpAny_bind (hm.here ?_))))
  rw [hmro, refuse_exc]
  refine wpAny_pure (wpAny_bind (tp.here (wpAny_bind ((looks_findIn X ha).here (wpAny_bind (L3.here ?_))))))
  dsimp only
  refine wpAny_bind (wpAny_pure (wpAny_bind (wpAny_bind (wpAny_loadPart he (wpAny_bind (hh'.here ?_))))))
  rw [hdct]
  rcases hd with rfl | ⟨dx, mA, rfl, hne, hd0, hns, hw⟩
  · have hx₁ : (hp.push { cls := .type "dict", data := .dict #[] }).get? e = some (excObj C t) := Heap.get?_push_of_some _ he
    have hxs : e ≠ hp.objs.size := Nat.ne_of_lt (Heap.lt_size he)
    refine wpAny_bind (wpAny_alloc' ?_)
    refine wpAny_bind (wpAny_update' hx₁ ?_)
    refine wpAny_pure ?_
    have hgd : ((hp.push { cls := .type "dict", data := .dict #[] }).update e fun o => { cls := o.cls, dict := some hp.objs.size, data := o.data, slots := o.slots }).get? hp.objs.size
        = some { cls := .type "dict", data := .dict #[] } :=
      (Heap.get?_update_ne _ _ _ _ hxs.symm).trans (Heap.get?_push_at rfl rfl)
    have hnd : ((hp.push { cls := .type "dict", data := .dict #[] }).update e fun o => { cls := o.cls, dict := some hp.objs.size, data := o.data, slots := o.slots }).Ns hp.objs.size (fun _ => none) :=
      ⟨_, #[], _, hgd, rfl, fun e he => absurd he (by simp), fun _ => rfl⟩
    show wpAny _ _ (storeInDict hp.objs.size (.str name tk) name v) _ _ _
    unfold storeInDict newKeyGuard
    refine wpAny_bind (wpAny_pure (wpAny_bind (wpAny_nsSet1 (Heap.Ns1.of_empty hnd) fun h' hn' hs => ?_)))
    obtain ⟨oD, esD, epD, hoD, hdD, hcD⟩ := hn'.count (PySem.Within.cons name v PySem.Within.nil)
    refine wpAny_bind (wpAny_lookBehind hoD (by rw [hdD]; exact pastItsLine_dict (Nat.le_trans hcD (by rw [List.length_cons, List.length_nil, sizeLine_eq]; omega))) ?_)
    refine wpAny_pure (hq h' _ ⟨fun b ob hbx hb => ?_, some hp.objs.size, ?_, .inr ⟨hp.objs.size, _, rfl, hxs.symm, ?_, hn', ?_⟩⟩)
    · have hb' := hk b ob hbx hb
      exact (hs.2 b (Nat.ne_of_lt (Heap.lt_size hb'))).trans ((Heap.get?_update_ne _ _ _ _ hbx).trans (Heap.get?_push_of_some _ hb'))
    · exact (hs.2 e hxs).trans (Heap.get?_update_self _ hx₁ rfl)
    · cases q : h0.get? hp.objs.size with
      | none => rfl
      | some o => exact absurd (Heap.lt_size (hk _ o hxs.symm q)) (Nat.lt_irrefl _)
    · intro y hy
      by_cases q : y = name
      · rw [q]; exact List.mem_cons_self
      · exact absurd (if_neg q) hy
  · refine wpAny_pure ?_
    show wpAny _ _ (storeInDict dx (.str name tk) name v) _ _ _
    unfold storeInDict newKeyGuard
    refine wpAny_bind (wpAny_pure (wpAny_bind (wpAny_nsSet1 hns fun h' hn' hs => ?_)))
    obtain ⟨oD, esD, epD, hoD, hdD, hcD⟩ := hn'.count (PySem.Within.cons name v hw)
    refine wpAny_bind (wpAny_lookBehind hoD (by rw [hdD]; exact pastItsLine_dict (Nat.le_trans hcD (by rw [List.length_cons, sizeLine_eq]; omega))) ?_)
    refine wpAny_pure (hq h' _ ⟨fun b ob hbx hb => ?_, some dx, (hs.2 e hne.symm).trans he, .inr ⟨dx, _, rfl, hne, hd0, hn', PySem.Within.cons name v hw⟩⟩)
    exact (hs.2 b (fun z => by rw [z, hd0] at hb; cases hb)).trans (hk b ob hbx hb)

theorem exc_setAttr {cd : ClassData} {Q : Unit → Shared → Prop} (X : K.In s.heap) (hcd : clsIn K C = some cd) (hmro : cd.mro = [.ref C, .ref B, .type "Exception", .type "BaseException", .type "object"]) (hdct : cd.hasDict = true)
    (hsa : findIn K (.ref C) "__setattr__" = some (some (.builtin "object.__setattr__"))) (ht : takerIn K C name = some none) (I : ExcIn h0 s.heap e C t ns) (hz : ns.length ≤ 10)
    (hq : ∀ h' tk', ExcIn h0 h' e C t (name :: ns) → Q () { s with heap := h', toks := tk' }) : wpAny (model prog w) A (setAttr (.ref e) name v) Q E s := by
  obtain ⟨hk, od, he, hd⟩ := id I
  have tp : Looks (model prog w) s.heap (typeOf (.ref e)) (.ref C) := (Looks.ld he).andThen .now
  refine wpAny_bind (wpAny_mkText (wpAny_bind (wpAny_bind (wpAny_bind (tp _ _ _ _ (fun _ _ e => e) (looks_findIn X hsa _ _ _ _ (fun _ _ e => e) (wpAny_holding ?_)))))))
  rw [PySem.F.store_object.slot.bind]
  refine wpAny_bind (wpAny_pure (wpAny_bind (wpAny_call (exc_store (s := { s with toks := s.toks + 1 }) X hcd hmro hdct ht I hz fun h' tk' I' => ?_))))
  exact wpAny_pure (wpAny_pure (hq h' tk' I'))
end

section
variable {w : World} {A : Around} {R : Result → Shared → Prop} {h : Heap} {g : Array GenState} {d : Drawn} {t : Nat} {os : OsState} {e t0 : Addr} {v : Value}
variable {nm q : Str} {C N : Addr} {bs bm : List Value} {hdct : Bool} {sn : List Str} {sub : List Value} {ab : Bool} {col : Option Bool} {dd : Option Addr} {k0 k1 k2 k3 k5 : Option Value}
theorem exc_baseInit (hC : h.get? C = some (excClassObj nm q C N bs bm hdct sn sub ab col dd k0 k1 k2 k3 k5 "Exception.__new__")) (XB : ExcBases C bm) (he : h.get? e = some (excObj C t0))
    (hq : ∀ h' t', (∀ b o, b ≠ e → h.get? b = some o → h'.get? b = some o) → h'.get? e = some (excObj C t') → R (.ok (.ret .none)) ⟨h', g, d, t, os⟩) :
    codeAny (model prog w) A (.call (.builtin "Exception.__init__") ⟨[.ref e, v], []⟩) R ⟨h, g, d, t, os⟩ := by
  have F := PySem.F.excBase_Exception
  have hshort := F.noStar
  obtain ⟨hE, hB, hA, hN, hself⟩ := XB
  refine codeAny_call_builtin F.init.plain F.initEntry ?_
  have chk : ∀ {M : Model} {A : Around} {E : Value → Shared → Prop} {Q : Unit → Shared → Prop}, Q () ⟨h, g, d, t, os⟩ → wpAny M A (checkBuiltinCall "Exception.__init__" ⟨[.ref e, v], []⟩) Q E ⟨h, g, d, t, os⟩ := by
    intro M A E Q hq
    simp only [checkBuiltinCall, F.initKind, F.initSplit, F.initRow]
    repeat (first | with_reducible refine wpAny_loadPart_at he ?_ | with_reducible refine wpAny_loadPart_at hC ?_ | (with_reducible refine wpAny_isSubtype_exc hC ?_; rw [hE]) | wp_step)
    exact hq
  refine chk ?_
  wp_walk
  have hp := Heap.get?_push_of_some { cls := .type "tuple", data := .seq #[v] } he
  refine hq _ h.objs.size (fun b o hb e' => ?_) ?_
  · rw [Heap.get?_update_other _ _ hb.symm]
    exact Heap.get?_push_of_some _ e'
  · rw [Heap.get?_update_self _ hp rfl]
    rfl
end

section
variable {w : World} {n : Nat} {fe : FE} {c : Cx} {m : Loc} {fr : List (Addr × Obj)} {ah : AH} {s : Shared}

theorem Fr.but {base h h' : Heap} {L e : Addr} {vm : Str → Option Value} (F : Fr base L h vm) (hL : L ≠ e) (h0 : base.get? e = none) (hk : ∀ b o, b ≠ e → h.get? b = some o → h'.get? b = some o) : Fr base L h' vm := by
  obtain ⟨oL, a1, a2, hoL, a3⟩ := F.ns
  exact ⟨⟨oL, a1, a2, hk _ _ hL hoL, a3⟩, fun b x q => hk b x (fun z => by rw [z, h0] at q; cases q) (F.keep b x q), F.above⟩


set_option maxHeartbeats 4000000 in
theorem exc_init (hc : c.Ok w n fe) {A : Around} (hA : A.frames = (c.A fe).frames) (hdp : A.depth < 999) {L : Addr} {vm : Str → Option Value} (F : Fr c.base L s.heap vm) {e t0 : Addr} {v pv : Value} (he : s.heap.get? e = some (excObj 57 t0)) (he0 : c.base.get? e = none) {R : Result → Shared → Prop}
    (hQ : ∀ h' tk od t', (∀ b o, b ≠ e → s.heap.get? b = some o → h'.get? b = some o) → h'.get? e = some { cls := .ref 57, dict := od, data := .fields #[.ref t', .none, .none, .none, .bool false, .none] } → R (.ok (.ret .none)) { s with heap := h', toks := tk }) :
    codeAny (model prog w) A (.call (.ref 29) ⟨[.ref e, v, pv], []⟩) R s := by
  have X : (hd.heap_1 w.params).In s.heap := hc.K.keeps F.keep
  have hC : s.heap.get? 57 = some _ := X _ _ (by k_is)
  have XB : ExcBases 57 [.ref 32, .type "Exception", .type "BaseException", .type "object"] := ⟨by decide +kernel, by decide +kernel, by decide +kernel, by decide +kernel, by decide +kernel⟩
  refine codeAny_call_def (binds := [("self", .ref e), ("message", v), ("place", pv)]) (by unfold recursionLimit; omega) (X _ _ (by k_is)) rfl (hc.T.nolimit.keeps F.keep) (codeRec_of X (by k_is)) rfl ?_ (by decide) ?_ (fun h₁ hns hk => ?_)
  · exact BindsTo.of_defaults rfl (X _ _ (by k_is)) rfl rfl rfl
  · intro x hx
    simp only [List.mem_cons, List.not_mem_nil, or_false] at hx
    rcases hx with rfl | rfl | rfl <;> rfl
  have he1 : h₁.get? e = some (excObj 57 t0) := hk _ _ he
  have hLe : s.heap.objs.size ≠ e := fun z => by rw [← z] at he; exact Nat.lt_irrefl _ (Heap.lt_size he)
  have F1 : Fr c.base s.heap.objs.size h₁ (fun x => ([("self", .ref e), ("message", v), ("place", pv)] : List (Str × Value)).reverse.lookup x) := ⟨hns, fun b o q => hk _ _ (F.keep b o q), Nat.le_trans F.above (Nat.le_of_lt F.ns.lt)⟩
  show wpAny (model prog w) (A.deeper (envOf "LazyError.__init__" _ s.heap.objs.size 29 (.ref 28))) (execs _ (envOf "LazyError.__init__" _ s.heap.objs.size 29 (.ref 28))) _ _ _
  refine wpAny_execs_cons (wpAny_Expr_any (MethodCall_ (name_B F1 hc.K (topRead_of hc.T) (by k_is) (by boot_by_name) (by decide) ?_ rfl rfl (by decide)) rfl) rfl rfl)
  refine method_type F1 hc.K (v := .builtin "Exception.__init__") (by first | rfl | kernel_rfl) (by decide +kernel) (by k_is) (by decide +kernel) ?_
  refine callWith_args (P := fun _ => True) (fun _ _ => rfl) rfl (fun _ _ => ⟨.machine, .inr (.inl rfl), Looks.of_pure rfl⟩) ?_
  show wpAny _ _ (spliced [(false, eval _ _), (false, eval _ _)]) _ _ _
  refine spliced_cons (ld F1 (v := .ref e) rfl ?_ rfl rfl (by decide))
  refine spliced_cons (ld F1 (v := v) rfl ?_ rfl rfl (by decide))
  refine spliced_nil ⟨trivial, ?_⟩
  refine wpAny_call (exc_baseInit (hk _ _ hC) XB he1 fun h2 t2 hk2 he2 => ?_)
  have I2 : ExcIn h₁ h2 e 57 t2 [] := ⟨hk2, none, he2, .inl rfl⟩
  have F2 := Fr.but F1 hLe he0 hk2
  refine wpAny_execs_cons (plainObj_wpAny_Assign_Attribute (ld F2 (v := v) rfl ?_ rfl rfl (by decide)) rfl)
  refine ld F2 (v := .ref e) rfl ?_ rfl rfl (by decide)
  refine exc_setAttr (hc.K.keeps F2.keep) (by k_is) rfl rfl (by k_is) (by k_is) I2 (by simp) fun h3 tk3 I3 => ?_
  have F3 := Fr.but F1 hLe he0 I3.1
  refine wpAny_execs_cons (plainObj_wpAny_Assign_Attribute (ld F3 (v := pv) rfl ?_ rfl rfl (by decide)) rfl)
  refine ld F3 (v := .ref e) rfl ?_ rfl rfl (by decide)
  refine exc_setAttr (hc.K.keeps F3.keep) (by k_is) rfl rfl (by k_is) (by k_is) I3 (by simp) fun h4 tk4 I4 => ?_
  refine wpAny_execs_nil ?_
  obtain ⟨k4, od, he4, _⟩ := I4
  exact hQ h4 tk4 od t2 (fun b o hb q => k4 b o hb (hk b o q)) he4
end
end

theorem funFrames_of {base B h : Heap} : ∀ {l : List (Env × (Str → Option Value))}, FramesUp base B h l → (∀ x ∈ l, x.1.scope.kind ≠ .module) → h.FunFrames B (l.map (·.1))
  | [], _, _ => trivial
  | x :: r, hf, hk => by
    obtain ⟨L, o, h1, _, h3, h4, es, ep, hd, _⟩ := hf x List.mem_cons_self
    exact ⟨hk x List.mem_cons_self, ⟨L, o, h1, h3, h4, fun vs q => by rw [hd] at q; cases q⟩, funFrames_of (fun y hy => hf y (List.mem_cons_of_mem _ hy)) fun y hy => hk y (List.mem_cons_of_mem _ hy)⟩

section
variable {w : World} {n : Nat} {fe : FE} {c : Cx} {m : Loc} {fr : List (Addr × Obj)} {ah : AH} {s : Shared}

theorem Raised.make (hc : c.Ok w n fe) (hst : St c m fr ah s) {h' : Heap} {e : Addr} {oe : Obj} {vs : Array Value} {a0 : Value} {tk : Nat} (he0 : s.heap.get? e = none) (hk : ∀ b o, s.heap.get? b = some o → h'.get? b = some o)
    (he : h'.get? e = some oe) (hcls : oe.cls = .ref 57) (hdata : oe.data = .fields vs) (v1 : vs[1]? = some .none) (v0 : vs[0]? = some a0) : Raised c fe fr ah (.ref e) { s with heap := h', toks := tk } := by
  obtain ⟨vm, news, ow, F, hm, N, R⟩ := hst
  generalize has : ((c.env fe, vm) :: c.fs).filterMap (fun x => x.1.frame) = as
  have frames : ∀ x ∈ (c.env fe, vm) :: c.fs, ∃ L o, x.1.frame = some L ∧ L ∈ as ∧ c.base.get? L = none ∧ s.heap.get? L = some o ∧ NsObj o x.2 := by
    intro x hx
    have hin : ∀ L, x.1.frame = some L → L ∈ as := fun L q => by rw [← has]; exact List.mem_filterMap.mpr ⟨x, hx, q⟩
    rcases List.mem_cons.mp hx with rfl | hx
    · obtain ⟨oL, es, ep, hL, hd⟩ := F.ns
      exact ⟨c.L, oL, rfl, hin _ rfl, Heap.get?_none_of_le F.above, hL, es, ep, hd⟩
    · obtain ⟨L, o, h1, h2, h3, h4⟩ := R.fss x hx
      exact ⟨L, o, h1, hin _ h1, (N _ h2).2.2, (N _ h2).1, h4⟩
  have inas : ∀ L ∈ as, ∃ x ∈ (c.env fe, vm) :: c.fs, x.1.frame = some L := fun L hL => by
    rw [← has] at hL
    exact List.mem_filterMap.mp hL
  have stay : c.base.StaysIn (hideAll s.heap as) := fun b o q => hideAll_get _ (F.keep b o q) fun hb => by
    obtain ⟨x, hx, hf⟩ := inas b hb
    obtain ⟨L, o', h1, _, h3, _⟩ := frames x hx
    rw [hf] at h1; cases h1
    rw [q] at h3; cases h3
  have own : ∀ p ∈ news, ow p.1 ≠ none → p ∈ news.filter (fun p => !decide (p.1 ∈ as)) := fun p hp ho => List.mem_filter.mpr ⟨hp, by
    have : p.1 ∉ as := fun hb => by
      obtain ⟨x, hx, hf⟩ := inas _ hb
      rcases List.mem_cons.mp hx with rfl | hx
      · exact (N p hp).2.1 (Option.some.inj hf).symm
      · obtain ⟨L, o', h1, h2, h3, _⟩ := R.fss x hx
        rw [hf] at h1; cases h1
        exact ho h3
    simp [this]⟩
  have up : FramesUp c.base (hideAll s.heap as) h' ((c.env fe, vm) :: c.fs) := fun x hx => by
    obtain ⟨L, o, h1, h2, h3, h4, h5⟩ := frames x hx
    exact ⟨L, o, h1, h3, hideAll_none _ h2, hk _ _ h4, h5⟩
  refine ⟨e, hideAll s.heap as, news.filter (fun p => !decide (p.1 ∈ as)), ow, vm, rfl, ⟨stay, fun q hq => ?_, R.nd.sublist (List.Sublist.map _ List.filter_sublist), fun a o q => (R.obj a o q).grow fun p hp hw => ⟨own p hp (by rw [hw]; simp), hw⟩, fun p hp => ⟨List.mem_filter.mpr ⟨(R.frm p hp).1, ?_⟩, (R.frm p hp).2⟩⟩, up, ?_⟩
  · obtain ⟨h1, h2⟩ := List.mem_filter.mp hq
    exact ⟨hideAll_get _ (N q h1).1 (by simpa using h2), (N q h1).2.2⟩
  · have : p.1 ∉ as := fun hb => by
      obtain ⟨x, hx, hf⟩ := inas _ hb
      rcases List.mem_cons.mp hx with rfl | hx
      · exact (N p (R.frm p hp).1).2.1 (Option.some.inj hf).symm
      · exact R.off p hp x hx hf
    simp [this]
  · refine .fresh (fun b o q => hk b o (of_hideAll _ q)) ?_ ?_ he hcls hdata v1 v0
    · cases q : (hideAll s.heap as).get? e with
      | none => rfl
      | some o => have := of_hideAll _ q; rw [he0] at this; cases this
    · have := funFrames_of up fun x hx => by
        rcases List.mem_cons.mp hx with rfl | hx
        · show fe.cs.kind ≠ .module
          rw [hc.hk]; decide
        · exact hc.frs.1 x hx
      exact this
end

section
variable {w : World} {A : Around} {E : Value → Shared → Prop} {s : Shared} {env : Env}
variable {nm q : Str} {C N : Addr} {bs bm : List Value} {hdct : Bool} {sn : List Str} {sub : List Value} {ab : Bool} {col : Option Bool} {dd : Option Addr} {k0 k1 k2 k3 k5 : Option Value}
theorem fill3 (w : World) : hd.heap_1 w.params = hd.heap_1 w.params ∧ PySem.Challenge.rw_np0243_01.foot = PySem.Challenge.rw_np0243_01.foot := by
  k_fill
  exact ⟨rfl, rfl⟩
theorem cls57 (w : World) : ∃ nm q N bs hdct sn sub ab col dd k0 k1 k2 k3 k5, (hd.heap_1 w.params).lookup 57 = some (excClassObj nm q 57 N bs [.ref 32, .type "Exception", .type "BaseException", .type "object"] hdct sn sub ab col dd k0 k1 k2 k3 k5 "Exception.__new__") :=
  ⟨_, _, _, _, _, _, _, _, _, _, _, _, _, _, _, by k_is⟩

theorem raise_exc {x : Sem Value} {Q : Flow → Shared → Prop} (XB : ExcBases C bm) (hh : A.handled = none)
    (h : wpAny (model prog w) A x (fun v s₁ => ∃ e t od, v = .ref e ∧ s₁.heap.get? C = some (excClassObj nm q C N bs bm hdct sn sub ab col dd k0 k1 k2 k3 k5 "Exception.__new__") ∧
      s₁.heap.get? e = some { cls := .ref C, dict := od, data := .fields #[.ref t, .none, .none, .none, .bool false, .none] } ∧ E (.ref e) s₁) E s) :
    wpAny (model prog w) A (raiseStmt env (some x) none) Q E s := by
  unfold raiseStmt
  refine wpAny_bind (wpAny_mono h (fun v s₁ h₁ => ?_) fun _ _ x => x)
  obtain ⟨e, t, od, rfl, hC, he, hE⟩ := h₁
  obtain ⟨hp, g, d, tk, os⟩ := s₁
  repeat (first | with_reducible refine wpAny_loadPart_at he ?_ | with_reducible refine wpAny_loadPart_at hC ?_ | (with_reducible refine wpAny_isSubtype_exc hC ?_; rw [XB.b]) | wp_step)
  exact wpAny_raiseNew_none hh hE
end

section
variable {w : World} {n : Nat} {fe : FE} {m : Loc} {ah : AH} {X : AH → Prop} {Q : AF → Loc → AH → Prop}

set_option maxHeartbeats 4000000 in
theorem Ex1.raise {np cpos pos : Pos} {e1 : Expr} {rest : List Expr} (hx : fe.cs.names.lookup ("LayoutError" : Str) = some .globalImplicit) (hs : CallShape (.Name "LayoutError" np) (e1 :: rest) cpos) (he : NoStar e1) (hr : NoStars rest)
    (h : Evs w n fe (e1 :: rest) m ah (fun vs ah1 => (∃ a b, vs = [a, b]) ∧ X ah1) X) : Ex1 w n fe (.Raise (some (.Call (.Name "LayoutError" np) (e1 :: rest) [] cpos)) none pos) m ah Q X := by
  intro c fr s hc hst Qc Ec hQ hE
  have XB : ExcBases 57 [.ref 32, .type "Exception", .type "BaseException", .type "object"] := ⟨by decide +kernel, by decide +kernel, by decide +kernel, by decide +kernel, by decide +kernel⟩
  obtain ⟨vm, news, ow, O⟩ := hst.opn
  obtain ⟨nm, q, N, bs, hdct, sn, sub, ab, col, dd, k0, k1, k2, k3, k5, hC⟩ := cls57 w
  have k : KeepOk w (.ref 57) := .inl ⟨57, rfl, by k_is⟩
  rw [arm_exec_Raise]
  refine wpAny_bind (wpAny_standAt (raise_exc (nm := nm) (q := q) (N := N) (bs := bs) (hdct := hdct) (sn := sn) (sub := sub) (ab := ab) (col := col) (dd := dd) (k0 := k0) (k1 := k1) (k2 := k2) (k3 := k3) (k5 := k5) XB (show (c.A fe).handled = none from hc.hh) ?_))
  refine wpAny_bind ?_
  refine Call_ ?_ (hs _)
  refine name_K O.F hc.K (topRead_of hc.T) (v := .ref 57) (by k_is) ?_ hc.hk hx (by decide)
  refine callWith_args (P := (hd.heap_1 w.params).In) he (hr _ _) k.keeps (h cpos c fr s hc hst _ _ (fun vs vs' m1 ah1 h1 tk1 q1 r1 s1 => ?_) hE)
  obtain ⟨rfl, ⟨a, b, rfl⟩, hX⟩ := q1
  obtain ⟨v, pv, rfl, ra, rb⟩ := r1.inv2
  obtain ⟨vm1, news1, ow1, O1⟩ := s1.opn
  have X1 : (hd.heap_1 w.params).In h1 := hc.K.keeps O1.F.keep
  refine ⟨X1, wpAny_call ?_⟩
  have hlt : c.L < h1.objs.size := O1.F.ns.lt
  refine exc_core X1 (X1 _ _ hC) XB (f := 29) (by k_is) (by k_is) (by k_is) (by k_is) (by k_is) (by rw [sizeLine_eq]; simp) ?_
  have he1 : ((h1.push { cls := .type "tuple", data := .seq [v, pv].toArray }).push (excObj 57 h1.objs.size)).get? (h1.objs.size + 1) = some (excObj 57 h1.objs.size) := by heap_get
  have kk : ∀ b o, h1.get? b = some o → ((h1.push { cls := .type "tuple", data := .seq [v, pv].toArray }).push (excObj 57 h1.objs.size)).get? b = some o := fun b o e => Heap.get?_push_of_some _ (Heap.get?_push_of_some _ e)
  have F2 := O1.F.keeps kk
  refine exc_init (s := { s with heap := (h1.push { cls := .type "tuple", data := .seq [v, pv].toArray }).push (excObj 57 h1.objs.size), toks := tk1 }) hc ?_ ?_ F2 he1 (Heap.get?_none_of_le (by have h9 : c.base.objs.size ≤ c.L := O1.F.above; exact Nat.le_of_lt (Nat.lt_succ_of_lt (Nat.lt_of_le_of_lt h9 hlt)))) fun h' tk od t' hk' he' => ?_
  · rfl
  · rw [depth_under_make]
    show c.A₀.depth + 1 + 1 < 999
    have := hc.dep; omega
  · refine ⟨rfl, ?_⟩
    have hne : ∀ b o, h1.get? b = some o → b ≠ h1.objs.size + 1 := fun b o e => Nat.ne_of_lt (Nat.lt_succ_of_lt (Heap.lt_size e))
    have hfin : ∀ b o, h1.get? b = some o → h'.get? b = some o := fun b o e => hk' b o (hne b o e) (kk b o e)
    refine wpAny_bind (wpAny_standAt (wpAny_pure ?_))
    refine ⟨_, t', od, rfl, hfin _ _ (X1 _ _ hC), he', hE _ _ _ _ hX ?_⟩
    exact Raised.make (s := { s with heap := h1, toks := tk1 }) hc s1 (Heap.get?_none_of_le (Nat.le_succ _)) hfin he' rfl rfl rfl rfl
end

theorem frames_list {base B h : Heap} : ∀ {l : List (Env × (Str → Option Value))}, FramesUp base B h l → ∃ fl : List (Addr × Obj), fl.map (fun p => some p.1) = l.map (fun x => x.1.frame) ∧ (∀ x ∈ l, ∃ L o, x.1.frame = some L ∧ (L, o) ∈ fl ∧ NsObj o x.2) ∧ ∀ p ∈ fl, base.get? p.1 = none ∧ B.get? p.1 = none ∧ h.get? p.1 = some p.2
  | [], _ => ⟨[], rfl, by simp, by simp⟩
  | x :: r, hf => by
    obtain ⟨L, o, h1, h2, h3, h4, h5⟩ := hf x List.mem_cons_self
    obtain ⟨fl, e1, e2, e3⟩ := frames_list (l := r) fun y hy => hf y (List.mem_cons_of_mem _ hy)
    refine ⟨(L, o) :: fl, by rw [List.map_cons, List.map_cons, e1, h1], ?_, ?_⟩
    · intro y hy
      rcases List.mem_cons.mp hy with rfl | hy
      · exact ⟨L, o, h1, List.mem_cons_self, h5⟩
      · obtain ⟨L', o', k1, k2, k3⟩ := e2 y hy
        exact ⟨L', o', k1, List.mem_cons_of_mem _ k2, k3⟩
    · intro p hp
      rcases List.mem_cons.mp hp with rfl | hp
      · exact ⟨h2, h3, h4⟩
      · exact e3 p hp

section
variable {w : World} {n : Nat} {fe : FE} {c : Cx} {m : Loc} {fr : List (Addr × Obj)} {ah : AH} {s : Shared}

theorem fr_of_up {B h : Heap} {vm : Str → Option Value} {l : List (Env × (Str → Option Value))} (hab : c.base.objs.size ≤ c.L) (hf : FramesUp c.base B h ((c.env fe, vm) :: l)) (k1 : c.base.StaysIn B) (k2 : B.StaysIn h) : Fr c.base c.L h vm := by
  obtain ⟨L, o, h1, h2, h3, h4, es, ep, h5, h6, h7⟩ := hf _ List.mem_cons_self
  obtain rfl : c.L = L := Option.some.inj h1
  exact ⟨⟨o, es, ep, h4, h5, h6, h7⟩, fun b x e => k2 _ _ (k1 b x e), hab⟩

theorem St.caught (hc : c.Ok w n fe) (hab : c.base.objs.size ≤ c.L) {B h : Heap} {news : List (Addr × Obj)} {ow : Addr → Option Addr} {vm : Str → Option Value} {tk : Nat} (hl : LedB c.base B fr ah news ow) (hf : FramesUp c.base B h ((c.env fe, vm) :: c.fs)) (hB : B.StaysIn h) :
    St c (fun _ => none) fr ah { s with heap := h, toks := tk } := by
  have F := fr_of_up hab hf hl.stay hB
  have hLB : B.get? c.L = none := by
    obtain ⟨L, o, h1, h2, h3, _⟩ := hf _ List.mem_cons_self
    obtain rfl : c.L = L := Option.some.inj h1
    exact h3
  obtain ⟨fl, e1, e2, e3⟩ := frames_list (l := c.fs) fun y hy => hf y (List.mem_cons_of_mem _ hy)
  have inF : ∀ p ∈ fl, ∃ x ∈ c.fs, x.1.frame = some p.1 := fun p hp => by
    have : some p.1 ∈ c.fs.map (fun x => x.1.frame) := by rw [← e1]; exact List.mem_map_of_mem hp
    obtain ⟨x, hx, hq⟩ := List.mem_map.mp this
    exact ⟨x, hx, hq⟩
  have nin : ∀ p ∈ news, p.1 ∉ fl.map (·.1) := fun p hp hq => by
    obtain ⟨q, hq, e⟩ := List.mem_map.mp hq
    have h1 := (e3 q hq).2.1
    rw [e, (hl.led p hp).1] at h1; cases h1
  have grow : ∀ {a o}, RO c.base news ow a o → RO c.base (fl ++ news) (fun b => if b ∈ fl.map (·.1) then none else ow b) a o := fun h => h.grow fun p hp hw => ⟨List.mem_append_right _ hp, (if_neg (nin p hp)).trans hw⟩
  refine ⟨vm, fl ++ news, fun b => if b ∈ fl.map (·.1) then none else ow b, F, (by intro x a e; cases e), ?_, ?_, fun a o q => grow (hl.obj a o q), ?_, ?_, ?_⟩
  · intro p hp
    rcases List.mem_append.mp hp with hp | hp
    · obtain ⟨h1, h2, h3⟩ := e3 p hp
      refine ⟨h3, fun z => ?_, h1⟩
      obtain ⟨x, hx, hq⟩ := inF p hp
      exact absurd (hc.low x hx _ hq) (by rw [z]; exact Nat.lt_irrefl _)
    · obtain ⟨h1, h2⟩ := hl.led p hp
      exact ⟨hB _ _ h1, (by intro z; rw [z, hLB] at h1; cases h1), h2⟩
  · rw [List.map_append, List.nodup_append]
    refine ⟨?_, hl.nd, fun u hu v hv z => ?_⟩
    · have h1 := hc.frs.2
      rw [← e1] at h1
      have : fl.map (fun p => some p.1) = (fl.map (·.1)).map some := by rw [List.map_map]; rfl
      rw [this] at h1
      exact (List.pairwise_map.mp h1).imp fun {a b} h z => h (congrArg some z)
    · obtain ⟨p, hp, rfl⟩ := List.mem_map.mp hv
      exact nin p hp (z ▸ hu)
  · intro p hp
    obtain ⟨h1, h2⟩ := hl.frm p hp
    exact ⟨List.mem_append_right _ h1, (if_neg (nin p h1)).trans h2⟩
  · intro x hx
    obtain ⟨L, o, h1, h2, h3⟩ := e2 x hx
    exact ⟨L, o, h1, List.mem_append_left _ h2, if_pos (List.mem_map_of_mem (f := (·.1)) h2), h3⟩
  · intro p hp x hx q
    have hn := nin p (hl.frm p hp).1
    obtain ⟨L, o, h1, h2, _⟩ := e2 x hx
    rw [h1] at q; cases q
    exact hn (List.mem_map_of_mem (f := (·.1)) h2)
end

section
variable {w : World} {n : Nat} {fe : FE} {m : Loc} {ah : AH} {X X1 : AH → Prop} {Q : AF → Loc → AH → Prop}
theorem fill4 (w : World) : hd.heap_1 w.params = hd.heap_1 w.params ∧ PySem.Challenge.rw_np0243_01.foot = PySem.Challenge.rw_np0243_01.foot := by
  k_fill
  exact ⟨rfl, rfl⟩

theorem Ex1.tryNone {np hpos tpos rp rpos : Pos} {rk : Nat} {body : List Stmt} (hx : fe.cs.names.lookup ("LayoutError" : Str) = some .globalImplicit) (hX : ∀ ah1, X1 ah1 → Q (.ret .none) (fun _ => none) ah1)
    (h : Ex w n fe body m ah Q X1) : Ex1 w n fe (.Try body [.ExceptHandler (some (.Name "LayoutError" np)) none [.Return (some (.Constant .none rk rp)) rpos] hpos] [] [] tpos) m ah Q X := by
  intro c fr s hc hst Qc Ec hQ hE
  obtain ⟨nm, q, N, bs, hdct, sn, sub, ab, col, dd, k0, k1, k2, k3, k5, hC⟩ := cls57 w
  have hab : c.base.objs.size ≤ c.L := by obtain ⟨vm, news, ow, O⟩ := hst.opn; exact O.F.above
  refine wpAny_Try_except (h c fr s hc hst _ _ (fun fl fl' m1 ah1 h1 tk1 q1 r1 s1 => ?_) (fun e ah' h' tk' hX1 hr => ?_))
  · cases r1 with
    | next => exact wpAny_execs_nil (hQ _ _ _ _ h1 tk1 q1 .next s1)
    | brk => exact hQ _ _ _ _ h1 tk1 q1 .brk s1
    | cont => exact hQ _ _ _ _ h1 tk1 q1 .cont s1
    | ret hv => exact hQ _ _ _ _ h1 tk1 q1 (.ret hv) s1
  · refine note_raised hc.framesA hr fun ea B news ow vm a0 h4 he hl hf hh => ?_
    subst he
    refine wpAny_landsW hh fun h5 hheld up5 => ?_
    have hf5 := hf.up up5
    have F5 : Fr c.base c.L h5 vm := fr_of_up hab hf5 hl.stay hheld.1
    obtain ⟨ob, hob, hobc⟩ := hheld.there
    refine wpAny_handleBy_cons (codeAny_handlers_test (name_K F5 hc.K (topRead_of hc.T) (v := .ref 57) (by k_is) ?_ hc.hk hx (by decide))) (by intro q; cases q)
    refine wpAny_excMatches_sub_self (hc.K.keeps F5.keep _ _ hC) hob hobc (by decide +kernel) (codeAny_handlers_suite ?_)
    refine lands_againW hheld fun h6 hfl6 up6 => ?_
    refine wpAny_execs_cons (wpAny_Return_some (wpAny_Constant_none ?_))
    exact hQ (.ret .none) _ _ _ h6 _ (hX _ hX1) (.ret .none) (St.caught hc hab hl (hf5.up up6) hfl6.1)
end

section
variable {w : World} {n : Nat} {fe : FE} {m : Loc} {ah : AH} {X : AH → Prop} {Q : AV → AH → Prop}

theorem Fn.join {x : Str} {a : Addr} {ys : List Str} (e : ah a = some (.list (ys.map AV.str))) (hx : x.length ≤ 16) (hw : (ys.map (·.length)).sum + ys.length ≤ 1048576) (h : Q (.str (Txt.join x ys)) ah) : Fn w n (.builtin "str.join") [.str x, .ref a] ah Q X := by
  intro fe m us hus
  obtain ⟨_, _, rfl, ha, hb⟩ := hus.inv2
  cases ha; cases hb
  intro c fr s hc hst Qc Ec hQ hE
  obtain ⟨vm, news, ow, O⟩ := hst.opn
  obtain ⟨vs', h1, h2⟩ := O.isList e
  exact join_listW h1 (strsAre_of h2) hx hw fun t' k => hQ _ _ m ah s.heap k ⟨rfl, h⟩ (.str _ _) hst
theorem Fn.lenScr {a : Addr} {ns : List Int} (e : ah a = some (.scr ns)) (hz : ns.length ≤ 2 ^ 62) (h : Q (.int ns.length) ah) : Fn w n (.builtin "len") [.ref a] ah Q X := by
  intro fe m us hus
  obtain ⟨_, rfl, ha⟩ := hus.inv1
  cases ha
  intro c fr s hc hst Qc Ec hQ hE
  obtain ⟨vm, news, ow, O⟩ := hst.opn
  obtain ⟨vs', h1, h2⟩ := O.scr e
  have hl : vs'.length = ns.length := by
    clear h1 e hz h
    induction h2 with
    | nil => rfl
    | cons _ _ _ ih => simp [ih]
  have hl2 : (vs'.toArray.size : Int) = ns.length := by simp [hl]
  refine len_list h1 (by simp; omega) ?_
  rw [hl2]
  exact hQ _ _ m ah s.heap (s.toks + 1 + 1) ⟨rfl, h⟩ (.int _ _) hst
theorem Bop.addLists {a b : Addr} {vs ws : List AV} (e : ah a = some (.list vs)) (e2 : ah b = some (.list ws)) (hz : vs.length ≤ 100000) (hz2 : ws.length ≤ 100000) (h : ∀ d, ah d = .none → Q (.ref d) (ah.set d (.list (vs ++ ws)))) : Bop w n fe .Add (.ref a) (.ref b) m ah Q X := by
  intro a' b' ha hb; cases ha; cases hb
  intro c fr s hc hs Qc Ec hQ hE
  obtain ⟨vm, news, ow, O⟩ := hs.opn
  obtain ⟨vs', h1, h2⟩ := O.isList e
  obtain ⟨us', k1, k2⟩ := O.isList e2
  have l1 := h2.length
  have l2 := k2.length
  refine add_lists O.F O.N h1 k1 (fun h' F' N' => ?_) (by rw [sizeLine_eq]; omega)
  obtain ⟨g1, g2⟩ := O.newList (k := 0) (tk := s.toks) F' N' (fun p hp => Heap.lt_size (O.N p hp).1) (h2.append k2)
  exact hQ _ _ _ _ h' s.toks ⟨rfl, h _ g1⟩ (.ref _) g2
theorem Cop.neStrs {a b : Addr} {ys : List Str} (e : ah a = some (.list (ys.map AV.str))) (e2 : ah b = some (.list (ys.map AV.str))) (h : Q (.bool false) ah) : Cop w n fe .NotEq (.ref a) (.ref b) m ah Q X := by
  intro a' b' ha hb; cases ha; cases hb
  intro c fr s hc hs Qc Ec hQ hE
  obtain ⟨vm, news, ow, O⟩ := hs.opn
  obtain ⟨vs', h1, h2⟩ := O.isList e
  obtain ⟨us', k1, k2⟩ := O.isList e2
  have l1 := h2.length
  have l2 := k2.length
  refine (PySem.SeqAt.RcNeAt.lists (e := fun _ => true) h1 k1 (by simp; omega) hc.room1 (fun j q1 q2 => ?_)) prog w Ec Qc ?_
  · have p1 : j < ys.length := by simp at l1 q1; omega
    obtain ⟨v, e1, r1⟩ := h2.get (i := j) (a := .str ys[j]) (by simp [p1])
    obtain ⟨u, e3, r3⟩ := k2.get (i := j) (a := .str ys[j]) (by simp [p1])
    have hv : vs'.toArray[j] = v := by simp at q1 ⊢; rw [List.getElem?_eq_getElem (by simpa using q1)] at e1; exact Option.some.inj e1
    have hu : us'.toArray[j] = u := by simp at q2 ⊢; rw [List.getElem?_eq_getElem (by simpa using q2)] at e3; exact Option.some.inj e3
    rw [hv, hu]
    cases r1; cases r3
    have := SeqAt.EqAt.str_str (A := (c.A fe).in1) (s := s) ys[j]
    simpa using this _ ys[j] _
  · have : ∀ b, b = false → Qc (.bool b) s := by
      rintro b rfl
      exact hQ _ _ m ah s.heap s.toks ⟨rfl, h⟩ (.bool _) hs
    exact this _ (by simp)
end

theorem ite_t {c : Prop} [Decidable c] {A B : Prop} (h : c) (a : A) : if c then A else B := by rw [if_pos h]; exact a
theorem ite_f {c : Prop} [Decidable c] {A B : Prop} (h : ¬ c) (b : B) : if c then A else B := by rw [if_neg h]; exact b
section
variable {w : World} {ah : AH} {P : Value → Prop}
theorem IsFn.intro {f : Value} (k : KeepOk w f) (h : P f) : ∃ g, IsFn w (.raw f) g ∧ P g := ⟨f, ⟨rfl, k⟩, h⟩
theorem KeepOk.ofRef {a : Addr} (k : keepIn (hd.heap_1 w.params) (.ref a) = true) : KeepOk w (.ref a) := .inl ⟨a, rfl, k⟩
theorem KeepOk.ofBuiltin {id : String} : KeepOk w (.builtin id) := .inr (.inl ⟨id, rfl⟩)
theorem KeepOk.ofType {T : String} : KeepOk w (.type T) := .inr (.inr ⟨T, rfl⟩)
theorem Meth.own {a C g : Addr} {fs : List (Str × AV)} {x : Str} (e : ah a = some (.inst C fs)) (ok : MethOk w C x g) (hn : fs.lookup x = .none) (k : keepIn (hd.heap_1 w.params) (.ref g) = true) (h : P (.ref g)) : ∃ f, Meth w ah (.ref a) x f ∧ P f :=
  ⟨_, .inl ⟨a, C, fs, g, rfl, e, ok, hn, rfl, k⟩, h⟩
theorem Meth.append {a : Addr} {vs : List AV} (e : ah a = some (.list vs)) (h : P (.builtin "list.append")) : ∃ f, Meth w ah (.ref a) "append" f ∧ P f :=
  ⟨_, .inr (.inl ⟨a, vs, rfl, e, .inl ⟨rfl, rfl⟩⟩), h⟩
theorem Meth.pop {a : Addr} {vs : List AV} (e : ah a = some (.list vs)) (h : P (.builtin "list.pop")) : ∃ f, Meth w ah (.ref a) "pop" f ∧ P f :=
  ⟨_, .inr (.inl ⟨a, vs, rfl, e, .inr (.inl ⟨rfl, rfl⟩)⟩), h⟩
theorem Meth.insert {a : Addr} {vs : List AV} (e : ah a = some (.list vs)) (h : P (.builtin "list.insert")) : ∃ f, Meth w ah (.ref a) "insert" f ∧ P f :=
  ⟨_, .inr (.inl ⟨a, vs, rfl, e, .inr (.inr ⟨rfl, rfl⟩)⟩), h⟩
theorem Meth.join {t : Str} (h : P (.builtin "str.join")) : ∃ f, Meth w ah (.str t) "join" f ∧ P f :=
  ⟨_, .inr (.inr ⟨t, rfl, rfl, rfl⟩), h⟩
end
theorem locs_of {as : List (Str × AV)} {names : List (Str × NameKind)} (h : (as.map (·.1)).all (fun x => names.lookup x == some .local) = true) : ∀ y ∈ as, names.lookup y.1 = some .local := by
  intro y hy
  have := List.all_eq_true.mp h y.1 (List.mem_map_of_mem hy)
  exact eq_of_beq this
section
variable {K : Frag} {fd : FuncData} {x y z : Str} {a b c : AV}
theorem b1 (h : ∀ v, bindArgs fd ⟨[v], []⟩ = pure [(x, v)]) : ∀ (s : Shared) (vs : List Value), K.In s.heap → RVs [a] vs → ∃ binds, BindsTo s fd ⟨vs, []⟩ binds ∧ RBs [(x, a)] binds := by
  intro s vs _ hv
  obtain ⟨v, rfl, h1⟩ := hv.inv1
  exact ⟨_, BindsTo.of_eq (h v), .cons h1 .nil⟩
theorem b2 (h : ∀ v u, bindArgs fd ⟨[v, u], []⟩ = pure [(x, v), (y, u)]) : ∀ (s : Shared) (vs : List Value), K.In s.heap → RVs [a, b] vs → ∃ binds, BindsTo s fd ⟨vs, []⟩ binds ∧ RBs [(x, a), (y, b)] binds := by
  intro s vs _ hv
  obtain ⟨v, u, rfl, h1, h2⟩ := hv.inv2
  exact ⟨_, BindsTo.of_eq (h v u), .cons h1 (.cons h2 .nil)⟩
theorem b3 (h : ∀ v u t, bindArgs fd ⟨[v, u, t], []⟩ = pure [(x, v), (y, u), (z, t)]) : ∀ (s : Shared) (vs : List Value), K.In s.heap → RVs [a, b, c] vs → ∃ binds, BindsTo s fd ⟨vs, []⟩ binds ∧ RBs [(x, a), (y, b), (z, c)] binds := by
  intro s vs _ hv
  obtain ⟨v, u, t, rfl, h1, h2, h3⟩ := hv.inv3
  exact ⟨_, BindsTo.of_eq (h v u t), .cons h1 (.cons h2 (.cons h3 .nil))⟩
end
section
variable {w : World} {n : Nat} {fe : FE} {m : Loc} {ah : AH} {X : AH → Prop} {e : Expr}
theorem Ts.mono {Q Q' : Bool → AH → Prop} (h : Ts w n fe e m ah Q X) (k : ∀ b ah1, Q b ah1 → Q' b ah1) : Ts w n fe e m ah Q' X := Tr.mono h (fun b _ ah1 ⟨h1, h2⟩ => ⟨h1, k b ah1 h2⟩) fun _ x => x
theorem Ts.still {P : Bool → Prop} {Q : Bool → AH → Prop} (h : Ts w n fe e m ah (fun v ah1 => P v ∧ ah1 = ah) X) (k : ∀ b, P b → Q b ah) : Ts w n fe e m ah Q X := Ts.mono h fun b ah1 ⟨h1, h2⟩ => by subst h2; exact k b h1
theorem Ev.mono {Q Q' : AV → AH → Prop} (h : Ev w n fe e m ah Q X) (k : ∀ b ah1, Q b ah1 → Q' b ah1) : Ev w n fe e m ah Q' X := Tr.mono h (fun b _ ah1 ⟨h1, h2⟩ => ⟨h1, k b ah1 h2⟩) fun _ x => x
end

local macro_rules | `(tactic| tb_rel) => `(tactic| first
  | with_reducible assumption
  | exact AH.set_self _ _ _
  | (refine' (AH.set_ne _ _ ?n).trans ?r; (case n => tb_rel); (case r => tb_rel))
  | (refine Ne.symm ?_; with_reducible assumption)
  | (refine' AH.ne_of ?e ?f; (case f => assumption); (case e => tb_rel))
  | (refine Ne.symm ?_; refine' AH.ne_of ?e ?f; (case f => assumption); (case e => tb_rel))
  | fail)
local macro_rules | `(tactic| tb_start) => `(tactic| first
  | (with_reducible refine' Ex.cons ?_)
  | (with_reducible refine' Ex.nil ?_)
  | ((with_reducible refine' Ex1.assignName ?a ?b ?_); (case a => intro _; exact rfl); (case b => exact rfl))
  | ((with_reducible refine' Ex1.assignAttr ?a ?_); (case a => intro _; exact rfl))
  | ((with_reducible refine' Ex1.assignSub ?a ?_); (case a => intro _; exact rfl))
  | ((with_reducible refine' Ex1.raise ?a ?b ?c ?d ?_); (case a => exact rfl); (case b => intro _; exact rfl); (case c => intro _ _; exact rfl); (case d => intro _ _; exact rfl))
  | ((with_reducible refine' Ex1.assignTup ?a ?b ?_); (case a => intro _; exact rfl); (case b => intro _; exact rfl))
  | ((with_reducible refine' As.tup ?a ?b ?_); (case a => tb_rel); (case b => intro _; exact ⟨rfl, rfl⟩))
  | ((with_reducible refine' AsL.cons ?a ?_); (case a => intro _; exact rfl))
  | (with_reducible refine' AsL.nil ?_)
  | ((with_reducible refine' As.name ?a ?_); (case a => exact rfl))
  | ((with_reducible refine' Ex1.augName ?a ?b ?_); (case a => first | exact rfl | assumption); (case b => exact rfl))
  | (with_reducible refine' Ex1.augAttr ?_)
  | (with_reducible refine' Ex1.if ?_)
  | (with_reducible refine' Ex1.ret ?_)
  | ((with_reducible refine' Ex1.expr ?a ?b ?_); (case a => intro _ _; exact rfl); (case b => intro _; exact rfl))
  | ((with_reducible refine' Ts.compare ?a ?_); (case a => exact rfl))
  | (with_reducible refine' Ts.not ?_)
  | (with_reducible refine' Ts.andNil ?_)
  | (with_reducible refine' Ts.orNil ?_)
  | (with_reducible refine' Ts.and ?_)
  | (with_reducible refine' Ts.or ?_)
  | ((with_reducible refine' Ts.value ?_ ?a); (case a => intro _ _; exact rfl))
  | ((with_reducible refine' Ev.local ?a ?b ?c ?_); (case a => first | exact rfl | assumption); (case b => exact rfl); (case c => decide))
  | ((with_reducible refine' Ev.global ?a ?b ?c ?d ?_); (case a => k_is); (case b => (first | exact RV.str _ _ | exact RV.int _ _ | exact RV.raw _)); (case c => exact rfl); (case d => decide))
  | ((with_reducible refine' Ev.builtin ?a ?b ?e ?c ?d ?_); (case a => k_is); (case b => boot_by_name); (case e => decide); (case c => exact rfl); (case d => decide))
  | (with_reducible refine' Ev.int ?_)
  | (with_reducible refine' Ev.str ?_)
  | (with_reducible refine' Ev.bool ?_)
  | (with_reducible refine' Ev.none ?_)
  | (with_reducible refine' Ev.binop ?_)
  | ((with_reducible refine' Ev.compare ?a ?_); (case a => exact rfl))
  | (with_reducible refine' Ev.boolOne ?_)
  | (with_reducible refine' Ev.and ?_)
  | (with_reducible refine' Ev.or ?_)
  | (with_reducible refine' Ev.unop ?_)
  | (with_reducible refine' Ev.ifexp ?_)
  | (with_reducible refine' Ev.listD ?_)
  | (with_reducible refine' Ev.tupD ?_)
  | ((with_reducible refine' Ev.attr ?_ ?a); (case a => intro _; with_unfolding_all rfl))
  | ((with_reducible refine' Ev.sliceStr ?a ?_); (case a => intro _ _ _; exact rfl))
  | (with_reducible refine' Ev.subscript ?_)
  | ((with_reducible refine' Ev.meth0 ?a ?_); (case a => intro _; exact rfl))
  | ((with_reducible refine' Ev.meth ?a ?b ?c ?_); (case a => intro _; exact rfl); (case b => intro _ _; exact rfl); (case c => intro _ _; exact rfl))
  | ((with_reducible refine' Ev.call0 ?a ?_); (case a => intro _; exact rfl))
  | ((with_reducible refine' Ev.call ?a ?b ?c ?_); (case a => intro _; exact rfl); (case b => intro _ _; exact rfl); (case c => intro _ _; exact rfl))
  | (with_reducible refine' Evs.nil ?_)
  | ((with_reducible refine' Evs.cons ?a ?_); (case a => intro _ _; exact rfl))
  | ((with_reducible refine' IsFn.intro ?a ?_); (case a => first | exact KeepOk.ofBuiltin | exact KeepOk.ofType | exact KeepOk.ofRef (by k_is)))
  | ((with_reducible refine' Meth.own ?a ?b ?c ?d ?_); (case a => tb_rel); (case b => exact ⟨by k_is, by k_is, by k_is⟩); (case c => exact rfl); (case d => k_is))
  | ((with_reducible refine' Meth.append ?a ?_); (case a => tb_rel))
  | ((with_reducible refine' Meth.pop ?a ?_); (case a => tb_rel))
  | ((with_reducible refine' Meth.insert ?a ?_); (case a => tb_rel))
  | (with_reducible refine' Meth.join ?_)
  | (with_reducible refine Exists.intro _ (Exists.intro _ (And.intro rfl (And.intro (by tb_rel) ?_))))
  | (with_reducible refine Exists.intro _ (And.intro rfl ?_))
  | (with_reducible refine And.intro (by (first | assumption | decide | omega | (simp; done) | (simp; omega))) ?_)
  | (with_reducible refine' Bop.addi ?_)
  | (with_reducible refine' Bop.subi ?_)
  | (with_reducible refine' Iop.addi ?_)
  | (with_reducible refine' Uop.negi ?_)
  | (with_reducible refine' Uop.not ?_)
  | (with_reducible refine' Cop.lti ?_)
  | (with_reducible refine' Cop.gti ?_)
  | (with_reducible refine' Cop.gei ?_)
  | (with_reducible refine' Cop.eqi ?_)
  | (with_reducible refine' Cop.nei ?_)
  | (with_reducible refine' Cop.eqs ?_)
  | (with_reducible refine' Cop.nes ?_)
  | (with_reducible refine' Cop.eqns ?_)
  | (with_reducible refine' Cop.nenn ?_)
  | ((with_reducible refine' Cop.isNone ?a ?_); (case a => exact rfl))
  | (with_reducible refine' Cop.isNotBool ?_)
  | (with_reducible refine' Cop.inStr ?_)
  | ((with_reducible refine' Cop.inK ?a ?b ?_); (case a => k_is); (case b => repeat constructor))
  | ((with_reducible refine' Cop.inTup ?a ?_); (case a => tb_rel))
  | ((with_reducible refine' Cop.notInTup ?a ?_); (case a => tb_rel))
  | ((with_reducible refine' Sub.list ?a ?b ?c ?d ?e ?_); (case a => tb_rel); (case b => (first | assumption | decide | omega | (simp; done) | (simp; omega))); (case c => (first | assumption | decide | omega | (simp; done) | (simp; omega))); (case d => exact rfl); (case e => intro _ _; exact rfl))
  | ((with_reducible refine' Sub.tup ?a ?b ?c ?d ?e ?_); (case a => tb_rel); (case b => (first | assumption | decide | omega | (simp; done) | (simp; omega))); (case c => (first | assumption | decide | omega | (simp; done) | (simp; omega))); (case d => exact rfl); (case e => intro _ _; exact rfl))
  | ((with_reducible refine' Sit.list ?a ?b ?c ?d ?_); (case a => tb_rel); (case b => (first | assumption | decide | omega | (simp; done) | (simp; omega))); (case c => (first | assumption | decide | omega | (simp; done) | (simp; omega))); (case d => (first | assumption | decide | omega | (simp; done) | (simp; omega))))
  | ((with_reducible refine' Cop.eqNil ?a ?b ?_); (case a => tb_rel); (case b => tb_rel))
  | ((with_reducible refine' Cop.neNil ?a ?b ?_); (case a => tb_rel); (case b => tb_rel))
  | ((with_reducible refine' Gat.own ?a ?b ?c ?d ?_); (case a => tb_rel); (case b => exact ⟨⟨_, by k_is, by k_is, by k_is, by k_is⟩⟩); (case c => exact rfl); (case d => first | exact rfl | assumption))
  | ((with_reducible refine' Sat.own ?a ?b ?c ?_); (case a => tb_rel); (case b => exact ⟨by k_is, by k_is, by k_is, by k_is⟩); (case c => exact Nat.le_of_ble_eq_true rfl))
  | (with_reducible refine' Tru.bool ?_)
  | ((with_reducible refine' Fn.lenStr ?a ?_); (case a => (first | assumption | decide | omega | (simp; done) | (simp; omega))))
  | ((with_reducible refine' Fn.lenList ?a ?b ?_); (case a => tb_rel); (case b => (first | assumption | decide | omega | (simp; done) | (simp; omega))))
  | ((with_reducible refine' Fn.lenScr ?a ?b ?_); (case a => tb_rel); (case b => (first | assumption | decide | omega | (simp; done) | (simp; omega))))
  | (with_reducible refine' Fn.min2 ?_)
  | ((with_reducible refine' Fn.append ?a ?b ?_); (case a => tb_rel); (case b => (first | assumption | decide | omega | (simp; done) | (simp; omega))))
  | ((with_reducible refine' Bop.adds ?a ?_); (case a => rw [sizeLine_eq]; (first | assumption | decide | omega | (simp; done) | (simp; omega))))
  | ((with_reducible refine' Bop.modi ?a ?_); (case a => (first | assumption | decide | omega | (simp; done) | (simp; omega))))
  | ((with_reducible refine' Bop.divi ?a ?b ?_); (case a => (first | assumption | decide | omega | (simp; done) | (simp; omega))); (case b => first | exact rfl | assumption))
  | ((with_reducible refine' Bop.muli ?a ?_); (case a => (first | assumption | decide | omega | (simp; done) | (simp; omega))))
  | fail)

noncomputable abbrev SgO (T : Str) (a l k : Int) : AO := .inst 152 [("text", .str T), ("at", .int a), ("line", .int l), ("column", .int k)]
noncomputable def sg (T : Str) (k : Nat) : Str := if k < T.length then Txt.item T k else ""

section
variable {w : World} {n : Nat} {ah : AH} {X : AH → Prop} {Q : AV → AH → Prop}
theorem is_among_spec {x y : Str} (h : Q (.bool (x != "" && Txt.contains y x)) ah) : Fn w (n + 1) (.ref 163) [.str x, .str y] ah Q X := by
  refine Fn.def (lb := [("sign", .str x), ("letters", .str y)]) (by k_is) (by k_is) (b2 fun _ _ => rfl) (locs_of rfl) rfl rfl rfl (by decide) ?_
  repeat' tb_start
  cases hx : x != "" with
  | true => rw [hx] at h; rw [if_pos rfl]; (repeat' tb_start) <;> exact h
  | false => rw [hx] at h; rw [if_neg (by simp)]; simpa using h

theorem sign0_spec {g : Addr} {T : Str} {a : Nat} {l k : Int} (e : ah g = some (SgO T a l k)) (hT : T.length ≤ 100000) (ha : a ≤ 1000000) (h : Q (.str (sg T a)) ah) : Fn w (n + 1) (.ref 121) [.ref g] ah Q X := by
  refine Fn.def (lb := [("self", .ref g), ("ahead", .int 0)]) (by k_is) (by k_is) ?_ (locs_of rfl) rfl rfl rfl (by decide) ?_
  · intro s vs hK hv
    obtain ⟨a, rfl, h1⟩ := hv.inv1
    exact ⟨_, BindsTo.of_defaults rfl (hK _ _ (by k_is)) rfl rfl rfl, .cons h1 (.cons (.int _ _) .nil)⟩
  · repeat' tb_start
    unfold sg at h
    by_cases hk : a < T.length
    · rw [if_pos hk] at h
      rw [if_pos (by simp; omega)]
      (repeat' tb_start)
      refine Sub.str (by omega) (by omega) (by omega) (by intro _ _; rfl) (by intro _ _; rfl) ?_
      simpa using h
    · rw [if_neg hk] at h
      rw [if_neg (by simp; omega)]
      (repeat' tb_start) <;> exact h
theorem signA_spec {g : Addr} {T : Str} {a b : Nat} {l k : Int} (e : ah g = some (SgO T a l k)) (hT : T.length ≤ 100000) (ha : a ≤ 1000000) (hb : b ≤ 1000) (h : Q (.str (sg T (a + b))) ah) : Fn w (n + 1) (.ref 121) [.ref g, .int b] ah Q X := by
  refine Fn.def (lb := [("self", .ref g), ("ahead", .int b)]) (by k_is) (by k_is) ?_ (locs_of rfl) rfl rfl rfl (by decide) ?_
  · intro s vs hK hv
    obtain ⟨a, b, rfl, h1, h2⟩ := hv.inv2
    exact ⟨_, BindsTo.of_defaults rfl (hK _ _ (by k_is)) rfl rfl rfl, .cons h1 (.cons h2 .nil)⟩
  · repeat' tb_start
    unfold sg at h
    by_cases hk : a + b < T.length
    · rw [if_pos hk] at h
      rw [if_pos (by simp; omega)]
      (repeat' tb_start)
      refine Sub.str (by omega) (by omega) (by omega) (by intro _ _; rfl) (by intro _ _; rfl) ?_
      simpa using h
    · rw [if_neg hk] at h
      rw [if_neg (by simp; omega)]
      (repeat' tb_start) <;> exact h
theorem step_spec {g : Addr} {T : Str} {a : Nat} {l k : Int} (e : ah g = some (SgO T a l k)) (hT : T.length ≤ 100000) (ha : a ≤ 100000) (ht : sg T a ≠ "\t") (h : Q (.str (sg T a)) (ah.set g (SgO T (a + 1) (if sg T a = "\n" then l + 1 else l) (if sg T a = "\n" then 1 else k + 1)))) : Fn w (n + 2) (.ref 135) [.ref g] ah Q X := by
  refine Fn.def (lb := [("self", .ref g)]) (by k_is) (by k_is) (b1 fun _ => rfl) (locs_of rfl) rfl rfl rfl (by decide) ?_
  repeat' tb_start
  refine sign0_spec e hT (by omega) ?_
  (repeat' tb_start)
  by_cases hn : sg T a = "\n"
  · rw [if_pos hn, if_pos hn] at h
    rw [if_pos (by rw [hn]; rfl)]
    (repeat' tb_start)
    rw [AH.set_set, AH.set_set]
    exact h
  · rw [if_neg hn, if_neg hn] at h
    rw [if_neg (by simpa using hn)]
    (repeat' tb_start)
    rw [if_neg (by simpa using ht)]
    (repeat' tb_start)
    rw [AH.set_set]
    exact h

theorem take_spec {g : Addr} {T L : Str} {a j : Nat} {l k : Int} (e : ah g = some (SgO T a l k)) (hT : T.length ≤ 100000) (ha : a + j ≤ 100000)
    (h1 : ∀ i < j, sg T (a + i) ≠ "" ∧ Txt.contains L (sg T (a + i)) = true ∧ sg T (a + i) ≠ "\t" ∧ sg T (a + i) ≠ "\n") (h2 : sg T (a + j) = "" ∨ Txt.contains L (sg T (a + j)) = false)
    (h : Q (.str (Txt.slice T (some (a : Int)) (some ((a + j : Nat) : Int)))) (ah.set g (SgO T ((a + j : Nat) : Int) l (k + j)))) : Fn w (n + 3) (.ref 142) [.ref g, .str L] ah Q X := by
  refine Fn.def (lb := [("self", .ref g), ("letters", .str L)]) (by k_is) (by k_is) (b2 fun _ _ => rfl) (locs_of rfl) rfl rfl rfl (by decide) ?_
  repeat' tb_start
  refine Ex1.while (fun kk m' ah' => ∃ i : Nat, i + kk = j ∧ m' = _ ∧ ah' = ah.set g (SgO T ((a + i : Nat) : Int) l (k + i))) j ⟨0, by omega, rfl, (by simpa using (AH.set_same e).symm)⟩ ?_
  rintro kk m' ah' ⟨i, hi, rfl, rfl⟩
  repeat' tb_start
  refine sign0_spec (AH.set_self _ _ _) hT (by omega) ?_
  repeat' tb_start
  by_cases hlt : i < j
  · obtain ⟨p1, p2, p3, p4⟩ := h1 i hlt
    rw [if_pos (by simpa using p1)]
    repeat' tb_start
    refine sign0_spec (AH.set_self _ _ _) hT (by omega) ?_
    repeat' tb_start
    rw [p2, if_pos rfl]
    repeat' tb_start
    rw [if_pos rfl]
    repeat' tb_start
    refine step_spec (AH.set_self _ _ _) hT (by omega) p3 ?_
    (repeat' tb_start)
    rw [if_neg p4, if_neg p4, AH.set_set]
    refine ⟨kk - 1, by omega, i + 1, by omega, rfl, ?_⟩
    congr 2
    omega
  · obtain rfl : i = j := by omega
    have fin : ∀ b : Bool, b = false → (if b = true then False else True) := by rintro b rfl; simp
    by_cases hs : sg T (a + i) = ""
    · rw [if_neg (by simpa using hs), if_neg (by simp)]
      (repeat' tb_start) <;> exact h
    · rw [if_pos (by simpa using hs)]
      repeat' tb_start
      refine sign0_spec (AH.set_self _ _ _) hT (by omega) ?_
      repeat' tb_start
      rw [h2.resolve_left hs, if_neg (by simp), if_neg (by simp)]
      (repeat' tb_start) <;> exact h
theorem starts_spec {g : Addr} {T x : Str} {a : Nat} {l k : Int} (e : ah g = some (SgO T a l k)) (hT : T.length ≤ 100000) (hx : x.length ≤ 1000) (h : Q (.bool (Txt.slice T (some (a : Int)) (some ((a : Int) + x.length)) == x)) ah) : Fn w (n + 1) (.ref 128) [.ref g, .str x] ah Q X := by
  refine Fn.def (lb := [("self", .ref g), ("some", .str x)]) (by k_is) (by k_is) (b2 fun _ _ => rfl) (locs_of rfl) rfl rfl rfl (by decide) ?_
  (repeat' tb_start) <;> exact h
theorem place_spec {g : Addr} {T : Str} {a : Nat} {l k : Int} (e : ah g = some (SgO T a l k)) (h : ∀ b, ah b = none → Q (.ref b) (ah.set b (.tup [.int l, .int k]))) : Fn w (n + 1) (.ref 149) [.ref g] ah Q X := by
  refine Fn.def (lb := [("self", .ref g)]) (by k_is) (by k_is) (b1 fun _ => rfl) (locs_of rfl) rfl rfl rfl (by decide) ?_
  (repeat' tb_start) <;> exact h
noncomputable def nameLetters : Str := (("abcdefghijklmnopqrstuvwxyz_" ++ "ABCDEFGHIJKLMNOPQRSTUVWXYZ" : Str) ++ "0123456789" : Str) ++ "'"
theorem name_letters_spec (h : Q (.str nameLetters) ah) : Fn w (n + 1) (.ref 170) [] ah Q X := by
  refine Fn.def (lb := []) (by k_is) (by k_is) (fun s vs _ hv => ⟨[], by cases hv; exact BindsTo.of_eq rfl, .nil⟩) (locs_of rfl) rfl rfl rfl (by decide) ?_
  (repeat' tb_start) <;> exact h
end

structure WD where
  kind : Str
  text : Str
  line : Int
  col : Int
  v : Bool
  first : Bool
noncomputable abbrev wv (b : Bool) : AV := if b then .str "virtual" else .none
noncomputable abbrev WoO (d : WD) : AO := .inst 95 [("kind", .str d.kind), ("text", .str d.text), ("line", .int d.line), ("column", .int d.col), ("value", wv d.v), ("is_first", .bool d.first)]

noncomputable def Ext (ah ah' : AH) : Prop := ∀ b o, ah b = some o → ah' b = some o
theorem Ext.refl {ah : AH} : Ext ah ah := fun _ _ h => h
theorem Ext.trans {a b c : AH} (h : Ext a b) (k : Ext b c) : Ext a c := fun x o e => k x o (h x o e)
theorem Ext.new {ah ah' : AH} {b : Addr} {o : AO} (h : Ext ah ah') (hb : ah' b = none) : Ext ah (ah'.set b o) := fun x y e => by
  have := h x y e
  exact (AH.set_ne _ _ (AH.ne_of this hb)).trans this
theorem Ext.upd {ah ah' : AH} {b : Addr} {o : AO} (h : Ext ah ah') (hb : ah b = none) : Ext ah (ah'.set b o) := fun x y e => by
  have := h x y e
  exact (AH.set_ne _ _ (AH.ne_of e hb)).trans this
theorem Ext.none {ah ah' : AH} {b : Addr} (h : Ext ah ah') (hb : ah' b = none) : ah b = none := by
  cases q : ah b with
  | none => rfl
  | some o => rw [h b o q] at hb; cases hb
theorem Loc.put_put (m : Loc) (x : Str) (a b : AV) : (m.put x a).put x b = m.put x b := by
  funext y; unfold Loc.put; split <;> rfl

section
variable {w : World} {n : Nat} {ah : AH} {X : AH → Prop} {Q : AV → AH → Prop}
theorem word6_spec {kd tx : Str} {l k : Int} {v f : Bool} (h : ∀ x, ah x = none → Q (.ref x) (ah.set x (WoO ⟨kd, tx, l, k, v, f⟩))) : Fn w (n + 2) (.ref 95) [.str kd, .str tx, .int l, .int k, wv v, .bool f] ah Q X := by
  refine Fn.cls (f := 78) (lb := fun x => [("self", .ref x), ("kind", .str kd), ("text", .str tx), ("line", .int l), ("column", .int k), ("value", wv v), ("is_first", .bool f)]) (by k_is) (by k_is) (by k_is) (by k_is) (by k_is) ?_ (fun x => locs_of rfl) rfl rfl rfl (by decide) ?_
  · intro x s vs hK hv
    obtain ⟨v1, us, rfl, h1, hv⟩ := hv.inv
    obtain ⟨v2, us, rfl, h2, hv⟩ := hv.inv
    obtain ⟨v3, us, rfl, h3, hv⟩ := hv.inv
    obtain ⟨v4, us, rfl, h4, hv⟩ := hv.inv
    obtain ⟨v5, us, rfl, h5, hv⟩ := hv.inv
    obtain ⟨v6, v7, rfl, h6, h7⟩ := hv.inv2
    exact ⟨_, BindsTo.of_defaults rfl (hK _ _ (by k_is)) rfl rfl rfl, .cons h1 (.cons h2 (.cons h3 (.cons h4 (.cons h5 (.cons h6 (.cons h7 .nil))))))⟩
  · intro x hx
    repeat' tb_start
    simp only [AH.set_set]
    exact h x hx
theorem word5_spec {kd tx : Str} {l k : Int} {v : Bool} (h : ∀ x, ah x = none → Q (.ref x) (ah.set x (WoO ⟨kd, tx, l, k, v, false⟩))) : Fn w (n + 2) (.ref 95) [.str kd, .str tx, .int l, .int k, wv v] ah Q X := by
  refine Fn.cls (f := 78) (lb := fun x => [("self", .ref x), ("kind", .str kd), ("text", .str tx), ("line", .int l), ("column", .int k), ("value", wv v), ("is_first", .bool false)]) (by k_is) (by k_is) (by k_is) (by k_is) (by k_is) ?_ (fun x => locs_of rfl) rfl rfl rfl (by decide) ?_
  · intro x s vs hK hv
    obtain ⟨v1, us, rfl, h1, hv⟩ := hv.inv
    obtain ⟨v2, us, rfl, h2, hv⟩ := hv.inv
    obtain ⟨v3, us, rfl, h3, hv⟩ := hv.inv
    obtain ⟨v4, us, rfl, h4, hv⟩ := hv.inv
    obtain ⟨v5, v6, rfl, h5, h6⟩ := hv.inv2
    exact ⟨_, BindsTo.of_defaults rfl (hK _ _ (by k_is)) rfl rfl rfl, .cons h1 (.cons h2 (.cons h3 (.cons h4 (.cons h5 (.cons h6 (.cons (.bool false) .nil))))))⟩
  · intro x hx
    repeat' tb_start
    simp only [AH.set_set]
    exact h x hx
theorem wplace_spec {g : Addr} {d : WD} (e : ah g = some (WoO d)) (h : ∀ b, ah b = none → Q (.ref b) (ah.set b (.tup [.int d.line, .int d.col]))) : Fn w (n + 1) (.ref 85) [.ref g] ah Q X := by
  refine Fn.def (lb := [("self", .ref g)]) (by k_is) (by k_is) (b1 fun _ => rfl) (locs_of rfl) rfl rfl rfl (by decide) ?_
  (repeat' tb_start) <;> exact h
theorem is_word_spec {g : Addr} {d : WD} {kd tx : Str} (e : ah g = some (WoO d)) (h : Q (.bool (d.kind == kd && d.text == tx)) ah) : Fn w (n + 1) (.ref 92) [.ref g, .str kd, .str tx] ah Q X := by
  refine Fn.def (lb := [("self", .ref g), ("kind", .str kd), ("text", .str tx)]) (by k_is) (by k_is) (b3 fun _ _ _ => rfl) (locs_of rfl) rfl rfl rfl (by decide) ?_
  repeat' tb_start
  cases hx : d.kind == kd with
  | true => rw [hx] at h; rw [if_pos rfl]; (repeat' tb_start) <;> exact h
  | false => rw [hx] at h; rw [if_neg (by simp)]; simpa using h
theorem is_line_comment_spec {g : Addr} {T : Str} {a : Nat} {l k : Int} (e : ah g = some (SgO T a l k)) (hT : T.length ≤ 100000) (hs : (Txt.slice T (some (a : Int)) (some ((a : Int) + 2)) == "--") = false) (h : Q (.bool false) ah) : Fn w (n + 2) (.ref 177) [.ref g] ah Q X := by
  refine Fn.def (lb := [("signs", .ref g)]) (by k_is) (by k_is) (b1 fun _ => rfl) (locs_of rfl) rfl rfl rfl (by decide) ?_
  repeat' tb_start
  refine starts_spec e hT (by decide) ?_
  rw [show (("--" : Str).length : Int) = 2 from rfl, hs]
  (repeat' tb_start)
  rw [if_pos (by decide)]
  (repeat' tb_start) <;> exact h

noncomputable def pos (T : Str) (a : Nat) (l k : Int) : Nat → Int × Int
  | 0 => (l, k)
  | i + 1 => if sg T (a + i) = "\n" then ((pos T a l k i).1 + 1, 1) else ((pos T a l k i).1, (pos T a l k i).2 + 1)
theorem pos_succ {T : Str} {a : Nat} {l k : Int} {i : Nat} : pos T a l k (i + 1) = if sg T (a + i) = "\n" then ((pos T a l k i).1 + 1, 1) else ((pos T a l k i).1, (pos T a l k i).2 + 1) := rfl
noncomputable def wsp : Str := " \t\n\r\x0c\x0b"

theorem skip_spec {g : Addr} {T : Str} {a j : Nat} {l k : Int} (e : ah g = some (SgO T a l k)) (hT : T.length ≤ 100000) (ha : a + j ≤ 100000)
    (h1 : ∀ i < j, sg T (a + i) = " " ∨ sg T (a + i) = "\n") (h2 : sg T (a + j) = "" ∨ Txt.contains wsp (sg T (a + j)) = false)
    (h3 : (Txt.slice T (some ((a + j : Nat) : Int)) (some (((a + j : Nat) : Int) + 2)) == "--") = false) (h4 : (Txt.slice T (some ((a + j : Nat) : Int)) (some (((a + j : Nat) : Int) + 2)) == "{-") = false)
    (h : Q (.bool (decide (l < (pos T a l k j).1))) (ah.set g (SgO T ((a + j : Nat) : Int) (pos T a l k j).1 (pos T a l k j).2))) : Fn w (n + 3) (.ref 191) [.ref g] ah Q X := by
  refine Fn.def (lb := [("signs", .ref g)]) (by k_is) (by k_is) (b1 fun _ => rfl) (locs_of rfl) rfl rfl rfl (by decide) ?_
  repeat' tb_start
  refine Ex1.while (fun kk m' ah' => ∃ (i : Nat) (b : Bool), i ≤ j ∧ kk = (if b then j - i + 1 else 0) ∧ (b = false → i = j) ∧ m' = Loc.put (Loc.put (fun y => List.lookup y ([("signs", AV.ref g)] : List (Str × AV)).reverse) "line" (.int l)) "going" (.bool b) ∧ ah' = ah.set g (SgO T ((a + i : Nat) : Int) (pos T a l k i).1 (pos T a l k i).2)) (j + 1)
    ⟨0, true, by omega, by simp, by simp, rfl, (by simpa [pos] using (AH.set_same e).symm)⟩ ?_
  rintro kk m' ah' ⟨i, b, hi, rfl, hb, rfl, rfl⟩
  repeat' tb_start
  cases b with
  | false =>
    obtain rfl := hb rfl
    rw [if_neg (by simp)]
    (repeat' tb_start) <;> exact h
  | true =>
    rw [if_pos rfl]
    repeat' tb_start
    refine sign0_spec (AH.set_self _ _ _) hT (by omega) ?_
    repeat' tb_start
    refine is_among_spec ?_
    repeat' tb_start
    by_cases hlt : i < j
    · have hw := h1 i hlt
      rw [if_pos (by rcases hw with hw | hw <;> rw [hw] <;> decide +kernel)]
      repeat' tb_start
      refine step_spec (AH.set_self _ _ _) hT (by omega) (by rcases hw with hw | hw <;> rw [hw] <;> decide) ?_
      (repeat' tb_start)
      refine ⟨j - (i + 1) + 1, by simp; omega, i + 1, true, by omega, by simp, by simp, rfl, ?_⟩
      rw [AH.set_set]
      have e1 : ((a + i : Nat) : Int) + 1 = ((a + (i + 1) : Nat) : Int) := by omega
      rw [e1]
      rw [pos_succ]
      by_cases hn : sg T (a + i) = "\n"
      · rw [if_pos hn, if_pos hn, if_pos hn]
      · rw [if_neg hn, if_neg hn, if_neg hn]
    · obtain rfl : i = j := by omega
      have ff : ¬ ((false : Bool) = true) := by decide
      have hc : (sg T (a + i) != "" && Txt.contains wsp (sg T (a + i))) = false := by
        rcases h2 with h2 | h2
        · rw [h2]; rfl
        · rw [h2, Bool.and_false]
      rw [show (sg T (a + i) != "" && Txt.contains (Str.ofString " \t\n\r\x0c\x0b") (sg T (a + i))) = false from hc, if_neg ff]
      repeat' tb_start
      refine is_line_comment_spec (AH.set_self _ _ _) hT h3 ?_
      repeat' tb_start
      rw [if_neg ff]
      repeat' tb_start
      refine starts_spec (AH.set_self _ _ _) hT (by decide) ?_
      rw [show (("{-" : Str).length : Int) = 2 from rfl, h4]
      (repeat' tb_start)
      rw [if_neg ff]
      (repeat' tb_start)
      exact ⟨0, by simp, i, false, by omega, by simp, by simp, Loc.put_put _ _ _ _, rfl⟩
end

section
variable {w : World} {n : Nat} {ah : AH} {X : AH → Prop} {Q : AV → AH → Prop}
noncomputable def spcl : Str := "()[],;`{}"
noncomputable def keys : List Str := ["case", "class", "data", "deriving", "do", "else", "if", "\x69mport", "in", "infix", "infixl", "infixr", "instance", "let", "module", "newtype", "of", "then", "type", "where", "_"]
theorem read_end_spec {g : Addr} {T : Str} {a : Nat} {l k : Int} (e : ah g = some (SgO T a l k)) (hT : T.length ≤ 100000) (ha : a ≤ 100000) (hs : sg T a = "")
    (h : ∀ b, ah b = none → Q (.ref b) (ah.set b (.tup [.str "end", .str "", .none]))) : Fn w (n + 4) (.ref 289) [.ref g] ah Q X := by
  refine Fn.def (lb := [("signs", .ref g)]) (by k_is) (by k_is) (b1 fun _ => rfl) (locs_of rfl) rfl rfl rfl (by decide) ?_
  repeat' tb_start
  refine sign0_spec e hT (by omega) ?_
  repeat' tb_start
  rw [hs, if_pos (by decide)]
  (repeat' tb_start) <;> exact h
theorem read_special_spec {g : Addr} {T : Str} {a : Nat} {l k : Int} (e : ah g = some (SgO T a l k)) (hT : T.length ≤ 100000) (ha : a ≤ 100000) (hs : sg T a ≠ "") (ht : sg T a ≠ "\t") (hn : sg T a ≠ "\n") (hc : Txt.contains spcl (sg T a) = true)
    (h : ∀ b, ah b = none → b ≠ g → Q (.ref b) ((ah.set g (SgO T (a + 1) l (k + 1))).set b (.tup [.str "special", .str (sg T a), .none]))) : Fn w (n + 4) (.ref 289) [.ref g] ah Q X := by
  refine Fn.def (lb := [("signs", .ref g)]) (by k_is) (by k_is) (b1 fun _ => rfl) (locs_of rfl) rfl rfl rfl (by decide) ?_
  have ff : ¬ ((false : Bool) = true) := by decide
  repeat' tb_start
  refine sign0_spec e hT (by omega) ?_
  repeat' tb_start
  rw [show (sg T a == Str.ofString "") = false from beq_eq_false_iff_ne.mpr hs, if_neg ff]
  repeat' tb_start
  refine is_among_spec ?_
  rw [show (sg T a != Str.ofString "") = true from bne_iff_ne.mpr hs]
  repeat' tb_start
  rw [show (true && Txt.contains (Str.ofString "()[],;`{}") (sg T a)) = true from hc, if_pos rfl]
  repeat' tb_start
  refine step_spec e hT (by omega) ht ?_
  rw [if_neg hn, if_neg hn]
  (repeat' tb_start)
  intro b hb
  refine h b ?_ ?_
  · by_cases q : b = g
    · rw [q, AH.set_self] at hb; cases hb
    · rwa [AH.set_ne _ _ q] at hb
  · rintro rfl; rw [AH.set_self] at hb; cases hb
theorem read_name_spec {g : Addr} {T : Str} {a j : Nat} {l k : Int} (e : ah g = some (SgO T a l k)) (hT : T.length ≤ 100000) (ha : a + j ≤ 100000) (hs : sg T a ≠ "") (hc1 : Txt.contains spcl (sg T a) = false) (hc2 : Txt.contains "0123456789" (sg T a) = false) (hc3 : Txt.contains "abcdefghijklmnopqrstuvwxyz_" (sg T a) = true)
    (h1 : ∀ i < j, sg T (a + i) ≠ "" ∧ Txt.contains nameLetters (sg T (a + i)) = true ∧ sg T (a + i) ≠ "\t" ∧ sg T (a + i) ≠ "\n") (h2 : sg T (a + j) = "" ∨ Txt.contains nameLetters (sg T (a + j)) = false)
    (h : ∀ b, ah b = none → b ≠ g → Q (.ref b) ((ah.set g (SgO T ((a + j : Nat) : Int) l (k + j))).set b (.tup [.str (if keys.any (· == Txt.slice T (some (a : Int)) (some ((a + j : Nat) : Int))) then "key" else "var"), .str (Txt.slice T (some (a : Int)) (some ((a + j : Nat) : Int))), .none]))) : Fn w (n + 4) (.ref 289) [.ref g] ah Q X := by
  refine Fn.def (lb := [("signs", .ref g)]) (by k_is) (by k_is) (b1 fun _ => rfl) (locs_of rfl) rfl rfl rfl (by decide) ?_
  have ff : ¬ ((false : Bool) = true) := by decide
  repeat' tb_start
  refine sign0_spec e hT (by omega) ?_
  repeat' tb_start
  rw [show (sg T a == Str.ofString "") = false from beq_eq_false_iff_ne.mpr hs, if_neg ff]
  repeat' tb_start
  refine is_among_spec ?_
  repeat' tb_start
  rw [show (sg T a != Str.ofString "" && Txt.contains (Str.ofString "()[],;`{}") (sg T a)) = false from by rw [show Txt.contains (Str.ofString "()[],;`{}") (sg T a) = false from hc1, Bool.and_false], if_neg ff]
  repeat' tb_start
  refine is_among_spec ?_
  repeat' tb_start
  rw [show (sg T a != Str.ofString "" && Txt.contains (Str.ofString "0123456789") (sg T a)) = false from by rw [hc2, Bool.and_false], if_neg ff]
  repeat' tb_start
  refine is_among_spec ?_
  rw [show (sg T a != Str.ofString "") = true from bne_iff_ne.mpr hs]
  repeat' tb_start
  rw [show (true && Txt.contains (Str.ofString "abcdefghijklmnopqrstuvwxyz_") (sg T a)) = true from hc3, if_pos rfl]
  repeat' tb_start
  refine name_letters_spec ?_
  repeat' tb_start
  refine take_spec e hT (by omega) h1 h2 ?_
  repeat' tb_start
  have fin : ∀ b, (ah.set g (SgO T ((a + j : Nat) : Int) l (k + j))) b = none → ah b = none ∧ b ≠ g := by
    intro b hb
    refine ⟨?_, ?_⟩
    · by_cases q : b = g
      · rw [q, AH.set_self] at hb; cases hb
      · rwa [AH.set_ne _ _ q] at hb
    · rintro rfl; rw [AH.set_self] at hb; cases hb
  cases hk : keys.any (· == Txt.slice T (some (a : Int)) (some ((a + j : Nat) : Int))) with
  | true =>
    rw [hk] at h
    refine ite_t hk ?_
    (repeat' tb_start)
    exact fun b hb => h b (fin b hb).1 (fin b hb).2
  | false =>
    rw [hk] at h
    refine ite_f (fun z => ff (hk.symm.trans z)) ?_
    (repeat' tb_start)
    exact fun b hb => h b (fin b hb).1 (fin b hb).2
end

inductive WsAt (ah : AH) : List Addr → List WD → Prop
  | nil : WsAt ah [] []
  | cons {r : Addr} {d : WD} {rs : List Addr} {ds : List WD} : ah r = some (WoO d) → WsAt ah rs ds → WsAt ah (r :: rs) (d :: ds)
theorem WsAt.mono {ah ah' : AH} {rs : List Addr} {ds : List WD} (h : WsAt ah rs ds) (k : ∀ r d, ah r = some (WoO d) → ah' r = some (WoO d)) : WsAt ah' rs ds := by
  induction h with
  | nil => exact .nil
  | cons h1 _ ih => exact .cons (k _ _ h1) ih
theorem WsAt.ext {ah ah' : AH} {rs : List Addr} {ds : List WD} (h : WsAt ah rs ds) (k : Ext ah ah') : WsAt ah' rs ds := h.mono fun _ _ e => k _ _ e
theorem WsAt.snoc {ah : AH} {rs : List Addr} {ds : List WD} {r : Addr} {d : WD} (h : WsAt ah rs ds) (e : ah r = some (WoO d)) : WsAt ah (rs ++ [r]) (ds ++ [d]) := by
  induction h with
  | nil => exact .cons e .nil
  | cons h1 _ ih => exact .cons h1 ih
theorem WsAt.length {ah : AH} {rs : List Addr} {ds : List WD} (h : WsAt ah rs ds) : rs.length = ds.length := by
  induction h with
  | nil => rfl
  | cons _ _ ih => simp [ih]
theorem WsAt.get {ah : AH} {rs : List Addr} {ds : List WD} (h : WsAt ah rs ds) : ∀ {i : Nat} {d : WD}, ds[i]? = some d → ∃ r, rs[i]? = some r ∧ ah r = some (WoO d) := by
  induction h with
  | nil => intro i d e; simp at e
  | cons h1 _ ih =>
    intro i d e
    cases i with
    | zero => simp only [List.getElem?_cons_zero, Option.some.injEq] at e; subst e; exact ⟨_, rfl, h1⟩
    | succ i => simp only [List.getElem?_cons_succ] at e ⊢; exact ih e
theorem WsAt.last {ah : AH} {rs : List Addr} {ds : List WD} (h : WsAt ah rs ds) {d : WD} (e : ds.getLast? = some d) : ∃ r, (rs.map AV.ref).getLast? = some (.ref r) ∧ ah r = some (WoO d) := by
  rw [List.getLast?_eq_getElem?] at e
  obtain ⟨r, h1, h2⟩ := h.get e
  refine ⟨r, ?_, h2⟩
  rw [List.getLast?_eq_getElem?, List.length_map, h.length, List.getElem?_map, h1]
  rfl
theorem ah_or {ah : AH} {b : Addr} {o x : AO} (e : ah b = some x) (hx : ∀ d, x ≠ WoO d) : ∀ r d, ah r = some (WoO d) → (ah.set b o) r = some (WoO d) := fun r d h =>
  (AH.set_ne _ _ (by rintro rfl; rw [e] at h; exact hx d (Option.some.inj h))).trans h

structure Gap (T : Str) (a j : Nat) : Prop where
  ha : a + j ≤ 90000
  h1 : ∀ i < j, sg T (a + i) = " " ∨ sg T (a + i) = "\n"
  h2 : sg T (a + j) = "" ∨ Txt.contains wsp (sg T (a + j)) = false
  h3 : (Txt.slice T (some ((a + j : Nat) : Int)) (some (((a + j : Nat) : Int) + 2)) == "--") = false
  h4 : (Txt.slice T (some ((a + j : Nat) : Int)) (some (((a + j : Nat) : Int) + 2)) == "{-") = false
inductive Rd (T : Str) (b : Nat) : Str → Str → Nat → Prop
  | fin (hs : sg T b = "") : Rd T b "end" "" 0
  | special (hs : sg T b ≠ "") (ht : sg T b ≠ "\t") (hn : sg T b ≠ "\n") (hc : Txt.contains spcl (sg T b) = true) : Rd T b "special" (sg T b) 1
  | name {i : Nat} (ha : b + i ≤ 90000) (hs : sg T b ≠ "") (hc1 : Txt.contains spcl (sg T b) = false) (hc2 : Txt.contains "0123456789" (sg T b) = false) (hc3 : Txt.contains "abcdefghijklmnopqrstuvwxyz_" (sg T b) = true)
      (g1 : ∀ x < i, sg T (b + x) ≠ "" ∧ Txt.contains nameLetters (sg T (b + x)) = true ∧ sg T (b + x) ≠ "\t" ∧ sg T (b + x) ≠ "\n") (g2 : sg T (b + i) = "" ∨ Txt.contains nameLetters (sg T (b + i)) = false) :
      Rd T b (if keys.any (· == Txt.slice T (some (b : Int)) (some ((b + i : Nat) : Int))) then "key" else "var") (Txt.slice T (some (b : Int)) (some ((b + i : Nat) : Int))) i
noncomputable abbrev fst? (l l' : Int) (f : Bool) : Bool := if decide (l < l') then true else f
inductive Lx (T : Str) : Nat → Int → Int → Bool → List WD → Prop
  | fin {a j : Nat} {l k : Int} {f : Bool} (G : Gap T a j) (R : Rd T (a + j) "end" "" 0) : Lx T a l k f [⟨"end", "", (pos T a l k j).1, (pos T a l k j).2, false, fst? l (pos T a l k j).1 f⟩]
  | more {a j i : Nat} {l k : Int} {f : Bool} {kd tx : Str} {ds : List WD} (G : Gap T a j) (R : Rd T (a + j) kd tx i) (hk : kd ≠ "end") (h : Lx T (a + j + i) (pos T a l k j).1 ((pos T a l k j).2 + i) false ds) :
      Lx T a l k f (⟨kd, tx, (pos T a l k j).1, (pos T a l k j).2, false, fst? l (pos T a l k j).1 f⟩ :: ds)
theorem Lx.open {T : Str} {a : Nat} {l k : Int} {f : Bool} {ds : List WD} (h : Lx T a l k f ds) : ∃ (j i : Nat) (kd tx : Str) (r : List WD), Gap T a j ∧ Rd T (a + j) kd tx i ∧ ds = ⟨kd, tx, (pos T a l k j).1, (pos T a l k j).2, false, fst? l (pos T a l k j).1 f⟩ :: r ∧
    ((kd = "end" ∧ r = []) ∨ (kd ≠ "end" ∧ Lx T (a + j + i) (pos T a l k j).1 ((pos T a l k j).2 + i) false r)) := by
  cases h with
  | fin G R => exact ⟨_, 0, _, _, [], G, R, rfl, .inl ⟨rfl, rfl⟩⟩
  | more G R hk h => exact ⟨_, _, _, _, _, G, R, rfl, .inr ⟨hk, h⟩⟩
theorem Lx.ne {T : Str} {a : Nat} {l k : Int} {f : Bool} {ds : List WD} (h : Lx T a l k f ds) : ds ≠ [] := by
  cases h <;> simp
theorem Rd.le {T : Str} {b i : Nat} {kd tx : Str} (h : Rd T b kd tx i) (hb : b ≤ 90000) : b + i ≤ 90001 := by
  cases h <;> omega

section
variable {w : World} {n : Nat} {ah : AH} {X : AH → Prop} {Q : AV → AH → Prop}
theorem signs_spec {T : Str} (h : ∀ x, ah x = none → Q (.ref x) (ah.set x (SgO T 0 1 1))) : Fn w (n + 2) (.ref 152) [.str T] ah Q X := by
  refine Fn.cls (f := 113) (lb := fun x => [("self", .ref x), ("text", .str T)]) (by k_is) (by k_is) (by k_is) (by k_is) (by k_is) (fun x => b2 fun _ _ => rfl) (fun x => locs_of rfl) rfl rfl rfl (by decide) ?_
  intro x hx
  repeat' tb_start
  simp only [AH.set_set]
  exact h x hx

theorem read_any_spec {g : Addr} {T : Str} {a i : Nat} {l k : Int} {kd tx : Str} (e : ah g = some (SgO T a l k)) (hT : T.length ≤ 100000) (ha : a ≤ 90000) (R : Rd T a kd tx i)
    (h : ∀ b, ah b = none → b ≠ g → Q (.ref b) ((ah.set g (SgO T ((a + i : Nat) : Int) l (k + i))).set b (.tup [.str kd, .str tx, .none]))) : Fn w (n + 4) (.ref 289) [.ref g] ah Q X := by
  cases R with
  | fin hs =>
    refine read_end_spec e hT (by omega) hs fun b hb => ?_
    have := h b hb (AH.ne_of e hb).symm
    have e' : ah.set g (SgO T ((a + 0 : Nat) : Int) l (k + ((0 : Nat) : Int))) = ah := AH.set_same (by simpa using e)
    rwa [e'] at this
  | special hs ht hn hc => exact read_special_spec e hT (by omega) hs ht hn hc h
  | name ha hs hc1 hc2 hc3 g1 g2 => exact read_name_spec e hT (by omega) hs hc1 hc2 hc3 g1 g2 h

structure WJ (T : Str) (ah : AH) (all : List WD) (kk : Nat) (m' : Loc) (ah' : AH) (g F : Addr) (refs : List Addr) (done rest : List WD) (a : Nat) (l k : Int) (f : Bool) : Prop where
  m1 : m' "signs" = some (.ref g)
  m2 : m' "found" = some (.ref F)
  m3 : m' "is_first" = some (.bool f)
  eg : ah' g = some (SgO T a l k)
  ng : ah g = none
  eF : ah' F = some (.list (refs.map AV.ref))
  nF : ah F = none
  ws : WsAt ah' refs done
  ex : Ext ah ah'
  al : all = done ++ rest
  kl : rest.length = kk
  la : a ≤ 90001
  e0 : rest = [] → ∃ d0, done.getLast? = some d0 ∧ d0.kind = "end"
  e1 : rest ≠ [] → Lx T a l k f rest ∧ ∀ d ∈ done, d.kind ≠ "end"
theorem words_of_spec {T : Str} {all : List WD} (hT : T.length ≤ 100000) (hx : Lx T 0 1 1 true all) (hz : all.length ≤ 1000)
    (h : ∀ F refs ah', ah F = none → ah' F = some (.list (refs.map AV.ref)) → WsAt ah' refs all → Ext ah ah' → Q (.ref F) ah') : Fn w (n + 6) (.ref 296) [.str T] ah Q X := by
  have ff : ¬ ((false : Bool) = true) := by decide
  refine Fn.def (lb := [("text", .str T)]) (by k_is) (by k_is) (b1 fun _ => rfl) (locs_of rfl) rfl rfl rfl (by decide) ?_
  repeat' tb_start
  refine signs_spec ?_
  intro g hg
  repeat' tb_start
  intro F hF
  repeat' tb_start
  have ngF : g ≠ F := by tb_rel
  have nF : ah F = none := by rwa [AH.set_ne _ _ (Ne.symm ngF)] at hF
  refine Ex1.while (fun kk m' ah' => ∃ g F refs done rest a l k f, WJ T ah all kk m' ah' g F refs done rest a l k f) all.length
    ⟨g, F, [], [], all, 0, 1, 1, true, rfl, rfl, rfl, by tb_rel, hg, by tb_rel, nF, .nil, (Ext.refl.new hg).new hF, rfl, rfl, by omega, fun z => absurd z hx.ne, fun _ => ⟨hx, by simp⟩⟩ ?_
  clear ngF nF hF hg
  clear F g
  rintro kk m' ah' ⟨g, F, refs, done, rest, a, l, k, f, J⟩
  refine Ts.mono (Q := fun v ah1 => (v = true ↔ rest ≠ []) ∧ WJ T ah all kk m' ah1 g F refs done rest a l k f) ?_ ?_
  · obtain ⟨m1, m2, m3, eg, ng, eF, nF, ws, ex, al, kl, la, e0, e1⟩ := J
    repeat' tb_start
    intro b hb
    have J1 : WJ T ah all kk m' (ah'.set b (AO.list [])) g F refs done rest a l k f := ⟨m1, m2, m3, by tb_rel, ng, by tb_rel, nF, ws.ext (Ext.refl.new hb), ex.new hb, al, kl, la, e0, e1⟩
    repeat' tb_start
    cases hd : done with
    | nil =>
      subst hd
      cases ws
      refine ite_t rfl ?_
      refine ⟨⟨fun _ z => ?_, fun _ => rfl⟩, J1⟩
      obtain ⟨d0, q, _⟩ := e0 z
      cases q
    | cons d ds =>
      rw [← hd]
      have hne : (List.map AV.ref refs).isEmpty = false := by
        have := ws.length
        rw [hd] at this
        cases refs with
        | nil => cases this
        | cons _ _ => rfl
      refine ite_f (by rw [hne]; exact ff) ?_
      obtain ⟨d0, hd0⟩ : ∃ d0, done.getLast? = some d0 := ⟨_, by rw [hd]; exact List.getLast?_cons⟩
      obtain ⟨r, hr, er⟩ := ws.last hd0
      repeat' tb_start
      refine Sub.last (by tb_rel) hr (by intro _ _; rfl) ?_
      repeat' tb_start
      by_cases hr0 : rest = []
      · obtain ⟨d1, q1, q2⟩ := e0 hr0
        rw [hd0] at q1
        cases q1
        refine ite_f (by rw [q2]; decide) ?_
        refine Ts.orNil ?_
        exact ⟨⟨fun z => absurd z ff, fun z => absurd hr0 z⟩, J1⟩
      · have := (e1 hr0).2 d0 (List.mem_of_getLast? hd0)
        refine ite_t (by simpa using this) ?_
        exact ⟨⟨fun _ => hr0, fun _ => rfl⟩, J1⟩
  · clear J
    rintro v ah1 ⟨hv, ⟨m1, m2, m3, eg, ng, eF, nF, ws, ex, al, kl, la, e0, e1⟩⟩
    cases v with
    | false =>
      have hr0 : rest = [] := Classical.byContradiction fun z => ff (hv.mpr z)
      subst hr0
      rw [List.append_nil] at al
      subst al
      refine ite_f ff ?_
      (repeat' tb_start)
      exact h F refs ah1 nF eF ws ex
    | true =>
      obtain ⟨hL, hkinds⟩ := e1 (hv.mp rfl)
      obtain ⟨j, i, kd, tx, r, G, R, rfl, hcase⟩ := hL.open
      have hgF : g ≠ F := AH.ne_of2 eg eF (by intro z; cases z)
      have hwl := ws.length
      have hdl : done.length ≤ 1000 := by rw [al, List.length_append] at hz; omega
      refine ite_t rfl ?_
      refine Ex.cons ?_
      refine Ex1.assignName (by intro _; rfl) rfl ?_
      refine Ev.mono (Q := fun v ah2 => v = .bool (fst? l (pos T a l k j).1 f) ∧ ah2 = ah1.set g (SgO T ((a + j : Nat) : Int) (pos T a l k j).1 (pos T a l k j).2)) ?_ ?_
      · repeat' tb_start
        refine skip_spec eg hT (by have := G.ha; omega) G.h1 G.h2 G.h3 G.h4 ?_
        repeat' tb_start
        cases hc : decide (l < (pos T a l k j).1) with
        | true => exact ite_t rfl ⟨by unfold fst?; rw [hc]; rfl, rfl⟩
        | false =>
          refine ite_f ff ?_
          refine Ev.boolOne ?_
          refine Ev.local m3 rfl (by decide) ?_
          exact ⟨by unfold fst?; rw [hc]; rfl, rfl⟩
      · rintro v ah2 ⟨rfl, rfl⟩
        repeat' tb_start
        refine place_spec (AH.set_self _ _ _) ?_
        intro b hb
        have hbg : b ≠ g := (AH.ne_of (AH.set_self ah1 g _) hb).symm
        repeat' tb_start
        refine read_any_spec (g := g) (by tb_rel) hT G.ha R ?_
        intro c hc hcg
        repeat' tb_start
        refine word6_spec (v := false) ?_
        intro x hx
        repeat' tb_start
        have hc' := (AH.set_ne _ (SgO T ((a + j + i : Nat) : Int) (pos T a l k j).1 ((pos T a l k j).2 + i)) hcg).trans hc
        have w1 := ws.mono (ah_or (o := SgO T ((a + j : Nat) : Int) (pos T a l k j).1 (pos T a l k j).2) eg (by intro d z; cases z))
        have w2 := w1.ext (Ext.refl.new (o := AO.tup [AV.int (pos T a l k j).fst, AV.int (pos T a l k j).snd]) hb)
        have w3 := w2.mono (ah_or (b := g) (x := SgO T ((a + j : Nat) : Int) (pos T a l k j).1 (pos T a l k j).2) (o := SgO T ((a + j + i : Nat) : Int) (pos T a l k j).1 ((pos T a l k j).2 + i)) (by tb_rel) (by intro d z; cases z))
        have w4 := w3.ext (Ext.refl.new (o := AO.tup [AV.str kd, AV.str tx, AV.none]) hc')
        have w5 := w4.ext (Ext.refl.new (o := WoO ⟨kd, tx, (pos T a l k j).1, (pos T a l k j).2, false, fst? l (pos T a l k j).1 f⟩) hx)
        have w6 := w5.snoc (AH.set_self _ _ _)
        have w7 := w6.mono (ah_or (b := F) (x := AO.list (refs.map AV.ref)) (o := AO.list (refs.map AV.ref ++ [AV.ref x])) (by tb_rel) (by intro d z; cases z))
        have ex1 := ((((ex.upd (o := SgO T ((a + j : Nat) : Int) (pos T a l k j).1 (pos T a l k j).2) ng).new (o := AO.tup [AV.int (pos T a l k j).fst, AV.int (pos T a l k j).snd]) hb).upd (o := SgO T ((a + j + i : Nat) : Int) (pos T a l k j).1 ((pos T a l k j).2 + i)) ng).new (o := AO.tup [AV.str kd, AV.str tx, AV.none]) hc').new (o := WoO ⟨kd, tx, (pos T a l k j).1, (pos T a l k j).2, false, fst? l (pos T a l k j).1 f⟩) hx
        refine ⟨r.length, by rw [← kl]; simp, g, F, refs ++ [x], done ++ [_], r, a + j + i, _, _, false, m1, m2, rfl, by tb_rel, ng, ?_, nF, w7, ex1.upd nF, ?_, rfl, R.le G.ha, ?_, ?_⟩
        · rw [AH.set_self, List.map_append]; rfl
        · rw [al, List.append_assoc]; rfl
        · rintro rfl
          rcases hcase with ⟨hk, _⟩ | ⟨_, hL'⟩
          · exact ⟨_, by rw [List.getLast?_append]; rfl, hk⟩
          · exact absurd rfl hL'.ne
        · intro hr
          rcases hcase with ⟨_, hr'⟩ | ⟨hk, hL'⟩
          · exact absurd hr' hr
          · refine ⟨hL', fun d hd => ?_⟩
            rcases List.mem_append.mp hd with hd | hd
            · exact hkinds d hd
            · rw [List.mem_singleton.mp hd]; exact hk
end

structure MS where
  at_ : Nat
  stack : List Int
  opening : Bool
  empty : Bool
  forced : Bool
  aligned : Bool
noncomputable abbrev LyO (ws st : Addr) (σ : MS) (sh : AV) : AO := .inst 398 [("words", .ref ws), ("at", .int σ.at_), ("stack", .ref st), ("shown", sh), ("is_opening", .bool σ.opening), ("is_empty", .bool σ.empty), ("is_forced", .bool σ.forced), ("is_aligned", .bool σ.aligned)]
structure LAt (ah : AH) (L ws st : Addr) (refs : List Addr) (ds : List WD) (σ : MS) (sh : AV) : Prop where
  eL : ah L = some (LyO ws st σ sh)
  ew : ah ws = some (.list (refs.map AV.ref))
  wd : WsAt ah refs ds
  es : ah st = some (.list (σ.stack.map AV.int))
  ne : ws ≠ st
  dsh : sh.data = true
  hsz : σ.stack.length ≤ 1000
noncomputable def Keep (L st : Addr) (ah ah' : AH) : Prop := ∀ b o, b ≠ L → b ≠ st → ah b = some o → ah' b = some o
theorem Keep.refl {L st : Addr} {ah : AH} : Keep L st ah ah := fun _ _ _ _ h => h
theorem Keep.trans {L st : Addr} {a b c : AH} (h : Keep L st a b) (k : Keep L st b c) : Keep L st a c := fun x o h1 h2 e => k x o h1 h2 (h x o h1 h2 e)
theorem Keep.ext {L st : Addr} {a b c : AH} (h : Keep L st a b) (k : Ext b c) : Keep L st a c := fun x o h1 h2 e => k x o (h x o h1 h2 e)
theorem Keep.new {L st : Addr} {a b : AH} {x : Addr} {o : AO} (h : Keep L st a b) (hx : b x = none) : Keep L st a (b.set x o) := h.ext (Ext.refl.new hx)
theorem Keep.setL {L st : Addr} {a b : AH} {o : AO} (h : Keep L st a b) : Keep L st a (b.set L o) := fun x y h1 h2 e => (AH.set_ne _ _ h1).trans (h x y h1 h2 e)
theorem Keep.setS {L st : Addr} {a b : AH} {o : AO} (h : Keep L st a b) : Keep L st a (b.set st o) := fun x y h1 h2 e => (AH.set_ne _ _ h2).trans (h x y h1 h2 e)
section
variable {ah ah' : AH} {L ws st : Addr} {refs : List Addr} {ds : List WD} {σ : MS} {sh : AV}
theorem LAt.nLs (h : LAt ah L ws st refs ds σ sh) : L ≠ st := AH.ne_of2 h.eL h.es (by intro z; cases z)
theorem LAt.nLw (h : LAt ah L ws st refs ds σ sh) : L ≠ ws := AH.ne_of2 h.eL h.ew (by intro z; cases z)
theorem LAt.ext (h : LAt ah L ws st refs ds σ sh) (k : Ext ah ah') : LAt ah' L ws st refs ds σ sh := ⟨k _ _ h.eL, k _ _ h.ew, h.wd.ext k, k _ _ h.es, h.ne, h.dsh, h.hsz⟩
theorem LAt.new (h : LAt ah L ws st refs ds σ sh) {x : Addr} {o : AO} (hx : ah x = none) : LAt (ah.set x o) L ws st refs ds σ sh := h.ext (Ext.refl.new hx)
theorem LAt.setL (h : LAt ah L ws st refs ds σ sh) {σ' : MS} {sh' : AV} (e : σ'.stack = σ.stack) (hd : sh'.data = true) : LAt (ah.set L (LyO ws st σ' sh')) L ws st refs ds σ' sh' :=
  ⟨AH.set_self _ _ _, (AH.set_ne _ _ h.nLw.symm).trans h.ew, h.wd.mono (ah_or h.eL (by intro d z; cases z)), by rw [e]; exact (AH.set_ne _ _ h.nLs.symm).trans h.es, h.ne, hd, by rw [e]; exact h.hsz⟩
theorem LAt.setS (h : LAt ah L ws st refs ds σ sh) {s' : List Int} (hz : s'.length ≤ 1000) : LAt (ah.set st (.list (s'.map AV.int))) L ws st refs ds { σ with stack := s' } sh :=
  ⟨(AH.set_ne _ _ h.nLs).trans h.eL, (AH.set_ne _ _ h.ne).trans h.ew, h.wd.mono (ah_or h.es (by intro d z; cases z)), AH.set_self _ _ _, h.ne, h.dsh, hz⟩
theorem LAt.word (h : LAt ah L ws st refs ds σ sh) {r : Addr} {d : WD} (e : ah r = some (WoO d)) : r ≠ L ∧ r ≠ st ∧ r ≠ ws :=
  ⟨AH.ne_of2 e h.eL (by intro z; cases z), AH.ne_of2 e h.es (by intro z; cases z), AH.ne_of2 e h.ew (by intro z; cases z)⟩
end

noncomputable def topP (s : List Int) : Int := s.getLast?.getD 0
noncomputable def colP (d : WD) : Int := if d.kind == "end" then 0 else d.col
noncomputable def vw (t : Str) (d : WD) : WD := ⟨"special", t, d.line, d.col, true, false⟩
noncomputable def isV (d : WD) : Bool := d.kind == "special" && d.v
noncomputable def isW (d : WD) (k t : Str) : Bool := d.kind == k && d.text == t

section
variable {w : World} {n : Nat} {ah : AH} {X : AH → Prop} {Q : AV → AH → Prop} {L ws st r : Addr} {refs : List Addr} {ds : List WD} {σ : MS} {sh : AV} {d : WD}
theorem is_virtual_spec (e : ah r = some (WoO d)) (h : Q (.bool (isV d)) ah) : Fn w (n + 1) (.ref 304) [.ref r] ah Q X := by
  refine Fn.def (lb := [("word", .ref r)]) (by k_is) (by k_is) (b1 fun _ => rfl) (locs_of rfl) rfl rfl rfl (by decide) ?_
  obtain ⟨kd, tx, l, k, v, f⟩ := d
  unfold isV at h
  have ff : ¬ ((false : Bool) = true) := by decide
  cases v with
  | true =>
    repeat' tb_start
    cases hk : (kd == "special") with
    | true =>
      dsimp only at h
      rw [hk] at h
      refine ite_t rfl ?_
      repeat' tb_start
      refine Cop.eqs (x := "virtual") ?_
      (repeat' tb_start) <;> exact h
    | false =>
      dsimp only at h
      rw [hk] at h
      refine ite_f ff ?_
      (repeat' tb_start) <;> exact h
  | false =>
    repeat' tb_start
    cases hk : (kd == "special") with
    | true =>
      dsimp only at h
      rw [hk] at h
      refine ite_t rfl ?_
      repeat' tb_start
      refine Cop.eqns ?_
      (repeat' tb_start) <;> exact h
    | false =>
      dsimp only at h
      rw [hk] at h
      refine ite_f ff ?_
      (repeat' tb_start) <;> exact h
theorem virtual_word_spec {t : Str} (e : ah r = some (WoO d)) (h : ∀ x, ah x = none → Q (.ref x) (ah.set x (WoO (vw t d)))) : Fn w (n + 3) (.ref 311) [.str t, .ref r] ah Q X := by
  refine Fn.def (lb := [("text", .str t), ("word", .ref r)]) (by k_is) (by k_is) (b2 fun _ _ => rfl) (locs_of rfl) rfl rfl rfl (by decide) ?_
  repeat' tb_start
  refine word5_spec (v := true) ?_
  intro x hx
  (repeat' tb_start) <;> exact h x hx
theorem column_spec (e : ah r = some (WoO d)) (h : Q (.int (colP d)) ah) : Fn w (n + 1) (.ref 360) [.ref L, .ref r] ah Q X := by
  refine Fn.def (lb := [("self", .ref L), ("word", .ref r)]) (by k_is) (by k_is) (b2 fun _ _ => rfl) (locs_of rfl) rfl rfl rfl (by decide) ?_
  have ff : ¬ ((false : Bool) = true) := by decide
  unfold colP at h
  repeat' tb_start
  cases hk : (d.kind == "end") with
  | true =>
    rw [hk] at h
    refine ite_t rfl ?_
    (repeat' tb_start) <;> exact h
  | false =>
    rw [hk] at h
    refine ite_f ff ?_
    (repeat' tb_start) <;> exact h
theorem top_spec (J : LAt ah L ws st refs ds σ sh) (h : ∀ ah', Ext ah ah' → Q (.int (topP σ.stack)) ah') : Fn w (n + 1) (.ref 367) [.ref L] ah Q X := by
  refine Fn.def (lb := [("self", .ref L)]) (by k_is) (by k_is) (b1 fun _ => rfl) (locs_of rfl) rfl rfl rfl (by decide) ?_
  have ff : ¬ ((false : Bool) = true) := by decide
  have eL := J.eL
  have es := J.es
  repeat' tb_start
  intro b hb
  repeat' tb_start
  cases hs : σ.stack.getLast? with
  | none =>
    have h0 : σ.stack = [] := List.getLast?_eq_none_iff.mp hs
    refine ite_f (by rw [h0]; decide) ?_
    (repeat' tb_start)
    have := h _ (Ext.refl.new (o := .list []) hb)
    unfold topP at this
    rwa [hs] at this
  | some t =>
    refine ite_t (by cases h0 : σ.stack with | nil => rw [h0] at hs; cases hs | cons _ _ => rfl) ?_
    repeat' tb_start
    refine Sub.last (vs := σ.stack.map AV.int) (by tb_rel) (by rw [List.getLast?_map, hs]; rfl) (by intro _ _; rfl) ?_
    have := h _ (Ext.refl.new (o := .list []) hb)
    unfold topP at this
    rwa [hs] at this
end

noncomputable def openP (σ : MS) (d : WD) : WD × MS :=
  if topP σ.stack < colP d then (vw "{" d, { σ with opening := false, stack := σ.stack ++ [d.col], aligned := true }) else (vw "{" d, { σ with opening := false, empty := true })
noncomputable def endP (σ : MS) (d : WD) : Option (WD × MS) :=
  if σ.stack = [] then some (d, σ) else if topP σ.stack = 0 then none else some (vw "}" d, { σ with stack := σ.stack.dropLast })
noncomputable def alignP (σ : MS) (d : WD) : WD × MS :=
  if topP σ.stack ≠ 0 ∧ d.col < topP σ.stack then (vw "}" d, { σ with stack := σ.stack.dropLast })
  else if topP σ.stack ≠ 0 ∧ d.col = topP σ.stack then (vw ";" d, { σ with aligned := true }) else (d, { σ with aligned := true })
noncomputable def foundP (σ : MS) (d : WD) : Option (WD × MS) :=
  if σ.opening then some (openP σ d) else if σ.empty then some (vw "}" d, { σ with empty := false, forced := true }) else if d.kind == "end" then endP σ d
  else if σ.aligned = false ∧ (d.first = true ∨ σ.forced = true) then some (alignP σ d) else some (d, σ)

section
variable {w : World} {n : Nat} {ah : AH} {X : AH → Prop} {Q : AV → AH → Prop} {L ws st r : Addr} {refs : List Addr} {ds : List WD} {σ : MS} {sh : AV} {d : WD}
noncomputable def Post (L ws st : Addr) (refs : List Addr) (ds : List WD) (sh : AV) (ah : AH) (Q : AV → AH → Prop) (pd : WD) (σ' : MS) : Prop :=
  ∀ p ah', ah' p = some (WoO pd) → LAt ah' L ws st refs ds σ' sh → Keep L st ah ah' → Q (.ref p) ah'
theorem last_pop {s : List Int} (h : s ≠ []) : s.map AV.int = s.dropLast.map AV.int ++ [.int (topP s)] := by
  have e := List.dropLast_concat_getLast h
  have : topP s = s.getLast h := by unfold topP; rw [List.getLast?_eq_some_getLast h]; rfl
  rw [this]
  conv => lhs; rw [← e]
  rw [List.map_append]; rfl

theorem opened_spec (J : LAt ah L ws st refs ds σ sh) (e : ah r = some (WoO d)) (hz : σ.stack.length < 1000) (h : Post L ws st refs ds sh ah Q (openP σ d).1 (openP σ d).2) : Fn w (n + 4) (.ref 381) [.ref L, .ref r] ah Q X := by
  refine Fn.def (lb := [("self", .ref L), ("word", .ref r)]) (by k_is) (by k_is) (b2 fun _ _ => rfl) (locs_of rfl) rfl rfl rfl (by decide) ?_
  have ff : ¬ ((false : Bool) = true) := by decide
  obtain ⟨n1, n2, n3⟩ := J.word e
  have eL := J.eL
  have es := J.es
  repeat' tb_start
  have J1 := J.setL (σ' := { σ with opening := false }) (sh' := sh) rfl J.dsh
  refine column_spec (r := r) (by tb_rel) ?_
  repeat' tb_start
  refine top_spec J1 ?_
  intro ah2 k2
  have J2 := J1.ext k2
  have e2 : ah2 r = some (WoO d) := k2 _ _ (by tb_rel)
  have K2 := (Keep.refl (L := L) (st := st) (ah := ah)).setL (o := LyO ws st { σ with opening := false } sh) |>.ext k2
  have es2 := J2.es
  have eL2 := J2.eL
  clear es eL
  repeat' tb_start
  unfold openP at h
  by_cases hlt : topP σ.stack < colP d
  · rw [if_pos hlt] at h
    refine ite_t (by simpa using hlt) ?_
    repeat' tb_start
    have J3 : LAt (ah2.set st (.list (List.map AV.int ({ σ with opening := false } : MS).stack ++ [AV.int d.col]))) L ws st refs ds { σ with opening := false, stack := σ.stack ++ [d.col] } sh := by
      have := J2.setS (s' := σ.stack ++ [d.col]) (by rw [List.length_append]; simp; omega)
      rw [List.map_append] at this
      exact this
    have K3 := K2.setS (o := AO.list (List.map AV.int ({ σ with opening := false } : MS).stack ++ [AV.int d.col]))
    have eL3 := J3.eL
    repeat' tb_start
    have J4 := J3.setL (σ' := { σ with opening := false, stack := σ.stack ++ [d.col], aligned := true }) (sh' := sh) rfl J.dsh
    refine virtual_word_spec (d := d) (by tb_rel) ?_
    intro x hx
    (repeat' tb_start)
    exact h x _ (AH.set_self _ _ _) (J4.new hx) (K3.setL.new hx)
  · rw [if_neg hlt] at h
    refine ite_f (by simpa using hlt) ?_
    repeat' tb_start
    have J4 := J2.setL (σ' := { σ with opening := false, empty := true }) (sh' := sh) rfl J.dsh
    refine virtual_word_spec (d := d) (by tb_rel) ?_
    intro x hx
    (repeat' tb_start)
    exact h x _ (AH.set_self _ _ _) (J4.new hx) (K2.setL.new hx)
end

section
variable {w : World} {n : Nat} {ah : AH} {X : AH → Prop} {Q : AV → AH → Prop} {L ws st r : Addr} {refs : List Addr} {ds : List WD} {σ : MS} {sh : AV} {d : WD}
theorem LAt.pop (J : LAt ah L ws st refs ds σ sh) : LAt (ah.set st (.list (σ.stack.dropLast.map AV.int))) L ws st refs ds { σ with stack := σ.stack.dropLast } sh :=
  J.setS (by have := J.hsz; simp; omega)

theorem ended_spec (J : LAt ah L ws st refs ds σ sh) (e : ah r = some (WoO d)) (h : ∀ pd σ', endP σ d = some (pd, σ') → Post L ws st refs ds sh ah Q pd σ') (hX : endP σ d = none → ∀ ah', Keep L st ah ah' → X ah') : Fn w (n + 4) (.ref 388) [.ref L, .ref r] ah Q X := by
  refine Fn.def (lb := [("self", .ref L), ("word", .ref r)]) (by k_is) (by k_is) (b2 fun _ _ => rfl) (locs_of rfl) rfl rfl rfl (by decide) ?_
  have ff : ¬ ((false : Bool) = true) := by decide
  obtain ⟨n1, n2, n3⟩ := J.word e
  have eL := J.eL
  have es := J.es
  have hsz := J.hsz
  repeat' tb_start
  intro b hb
  have nb : st ≠ b := AH.ne_of es hb
  have J1 := J.new (o := .list []) hb
  have K1 := (Keep.refl (L := L) (st := st) (ah := ah)).new (o := .list []) hb
  repeat' tb_start
  by_cases h0 : σ.stack = []
  · refine ite_t (by rw [h0]; rfl) ?_
    (repeat' tb_start)
    exact h d σ (by unfold endP; rw [if_pos h0]) r _ (by tb_rel) J1 K1
  · refine ite_f (by cases q : σ.stack with | nil => exact absurd q h0 | cons _ _ => exact ff) ?_
    have es' : ah st = some (.list (σ.stack.dropLast.map AV.int ++ [.int (topP σ.stack)])) := by rw [← last_pop h0]; exact es
    have J2 := J1.pop
    have K2 := K1.setS (o := .list (σ.stack.dropLast.map AV.int))
    clear es
    repeat' tb_start
    refine Fn.pop (by tb_rel) (by simp; omega) ?_
    repeat' tb_start
    by_cases ht : topP σ.stack = 0
    · refine ite_t (by rw [ht]; rfl) ?_
      repeat' tb_start
      refine wplace_spec (d := d) (by tb_rel) ?_
      intro c hc
      (repeat' tb_start)
      exact hX (by unfold endP; rw [if_neg h0, if_pos ht]) _ (K2.new hc)
    · refine ite_f (by simpa using ht) ?_
      repeat' tb_start
      refine virtual_word_spec (d := d) (by tb_rel) ?_
      intro x hx
      (repeat' tb_start)
      exact h _ _ (by unfold endP; rw [if_neg h0, if_neg ht]) x _ (AH.set_self _ _ _) (J2.new hx) (K2.new hx)

theorem aligned_spec (J : LAt ah L ws st refs ds σ sh) (e : ah r = some (WoO d)) (h : Post L ws st refs ds sh ah Q (alignP σ d).1 (alignP σ d).2) : Fn w (n + 4) (.ref 395) [.ref L, .ref r] ah Q X := by
  refine Fn.def (lb := [("self", .ref L), ("word", .ref r)]) (by k_is) (by k_is) (b2 fun _ _ => rfl) (locs_of rfl) rfl rfl rfl (by decide) ?_
  have ff : ¬ ((false : Bool) = true) := by decide
  have hsz := J.hsz
  unfold alignP at h
  refine Ex.cons ?_
  refine Ex1.if ?_
  refine Ts.mono (Q := fun v ah1 => v = decide (topP σ.stack ≠ 0 ∧ d.col < topP σ.stack) ∧ LAt ah1 L ws st refs ds σ sh ∧ ah1 r = some (WoO d) ∧ Keep L st ah ah1) ?_ ?_
  · have eL := J.eL
    repeat' tb_start
    refine top_spec J ?_
    intro ah1 k1
    have J1 := J.ext k1
    have eL1 := J1.eL
    have e1 := k1 _ _ e
    repeat' tb_start
    by_cases ht : topP σ.stack = 0
    · refine ite_f (by simpa using ht) ?_
      exact ⟨by simp [ht], J1, e1, Keep.refl.ext k1⟩
    · refine ite_t (by simpa using ht) ?_
      repeat' tb_start
      refine top_spec J1 ?_
      intro ah2 k2
      (repeat' tb_start)
      cases hb : decide (d.col < topP σ.stack) with
      | true =>
        refine ite_t rfl ?_
        refine Ts.andNil ?_
        have := of_decide_eq_true hb
        exact ⟨by simp [ht, this], J1.ext k2, k2 _ _ e1, (Keep.refl.ext k1).ext k2⟩
      | false =>
        refine ite_f ff ?_
        have := of_decide_eq_false hb
        exact ⟨by simp [this], J1.ext k2, k2 _ _ e1, (Keep.refl.ext k1).ext k2⟩
  rintro v ah1 ⟨rfl, J1, e1, K1⟩
  have eL1 := J1.eL
  have es1 := J1.es
  obtain ⟨n1, n2, n3⟩ := J1.word e1
  by_cases hc : topP σ.stack ≠ 0 ∧ d.col < topP σ.stack
  · rw [if_pos hc] at h
    refine ite_t (decide_eq_true hc) ?_
    have h0 : σ.stack ≠ [] := by intro z; apply hc.1; rw [z]; rfl
    have es' : ah1 st = some (.list (σ.stack.dropLast.map AV.int ++ [.int (topP σ.stack)])) := by rw [← last_pop h0]; exact es1
    clear es1
    repeat' tb_start
    refine Fn.pop (by tb_rel) (by simp; omega) ?_
    repeat' tb_start
    refine virtual_word_spec (d := d) (by tb_rel) ?_
    intro x hx
    (repeat' tb_start)
    exact h x _ (AH.set_self _ _ _) (J1.pop.new hx) (K1.setS.new hx)
  · rw [if_neg hc] at h
    refine ite_f (by simpa using hc) ?_
    refine Ex.nil ?_
    refine Ex.cons ?_
    refine Ex1.assignAttr (by intro _; exact rfl) ?_
    iterate 3 tb_start
    have J2 := J1.setL (σ' := { σ with aligned := true }) (sh' := sh) rfl J.dsh
    have e2 : (ah1.set L (LyO ws st { σ with aligned := true } sh)) r = some (WoO d) := by tb_rel
    have K2 := K1.setL (o := LyO ws st { σ with aligned := true } sh)
    refine Ex.cons ?_
    refine Ex1.if ?_
    refine Ts.mono (Q := fun v ah1 => v = decide (topP σ.stack ≠ 0 ∧ d.col = topP σ.stack) ∧ LAt ah1 L ws st refs ds { σ with aligned := true } sh ∧ ah1 r = some (WoO d) ∧ Keep L st ah ah1) ?_ ?_
    · have eL := J2.eL
      repeat' tb_start
      refine top_spec J2 ?_
      intro ah1 k1
      have J1 := J2.ext k1
      have eL1 := J1.eL
      have e1 := k1 _ _ e2
      repeat' tb_start
      by_cases ht : topP σ.stack = 0
      · refine ite_f (by simpa using ht) ?_
        exact ⟨by simp [ht], J1, e1, K2.ext k1⟩
      · refine ite_t (by simpa using ht) ?_
        repeat' tb_start
        refine top_spec J1 ?_
        intro ah2 k2
        (repeat' tb_start)
        cases hb : (d.col == topP σ.stack) with
        | true =>
          refine ite_t rfl ?_
          refine Ts.andNil ?_
          have := eq_of_beq hb
          exact ⟨by simp [ht, this], J1.ext k2, k2 _ _ e1, (K2.ext k1).ext k2⟩
        | false =>
          refine ite_f ff ?_
          have := ne_of_beq_false hb
          exact ⟨by simp [this], J1.ext k2, k2 _ _ e1, (K2.ext k1).ext k2⟩
    rintro v ah4 ⟨rfl, J4, e4, K4⟩
    have eL4 := J4.eL
    by_cases hc2 : topP σ.stack ≠ 0 ∧ d.col = topP σ.stack
    · rw [if_pos hc2] at h
      refine ite_t (decide_eq_true hc2) ?_
      repeat' tb_start
      refine virtual_word_spec (d := d) (by tb_rel) ?_
      intro x hx
      (repeat' tb_start)
      exact h x _ (AH.set_self _ _ _) (J4.new hx) (K4.new hx)
    · rw [if_neg hc2] at h
      refine ite_f (by simpa using hc2) ?_
      (repeat' tb_start)
      exact h r _ e4 J4 K4
end

section
variable {w : World} {n : Nat} {ah : AH} {X : AH → Prop} {Q : AV → AH → Prop} {L ws st r : Addr} {refs : List Addr} {ds : List WD} {σ : MS} {sh : AV} {d : WD}
theorem found_spec (J : LAt ah L ws st refs ds σ sh) (hd : ds[σ.at_]? = some d) (hz : ds.length ≤ 1000) (hs : σ.stack.length < 1000) (h : ∀ pd σ', foundP σ d = some (pd, σ') → Post L ws st refs ds sh ah Q pd σ') (hX : foundP σ d = none → ∀ ah', Keep L st ah ah' → X ah') : Fn w (n + 5) (.ref 374) [.ref L] ah Q X := by
  refine Fn.def (lb := [("self", .ref L)]) (by k_is) (by k_is) (b1 fun _ => rfl) (locs_of rfl) rfl rfl rfl (by decide) ?_
  have ff : ¬ ((false : Bool) = true) := by decide
  have eL := J.eL
  have ew := J.ew
  obtain ⟨r, hr, e⟩ := J.wd.get hd
  obtain ⟨n1, n2, n3⟩ := J.word e
  have hlt : σ.at_ < ds.length := (List.getElem?_eq_some_iff.mp hd).1
  repeat' tb_start
  refine Sub.list (vs := refs.map AV.ref) (x := .ref r) (by tb_rel) (by omega) (by omega) (by simp [hr]) (by intro _ _; rfl) ?_
  repeat' tb_start
  cases ho : σ.opening with
  | true =>
    refine ite_t rfl ?_
    repeat' tb_start
    refine opened_spec J e hs ?_
    intro p ah' ep J' K'
    (repeat' tb_start)
    exact h _ _ (by unfold foundP; rw [ho]; rfl) p ah' ep J' K'
  | false =>
    refine ite_f ff ?_
    repeat' tb_start
    cases hem : σ.empty with
    | true =>
      refine ite_t rfl ?_
      repeat' tb_start
      refine virtual_word_spec (d := d) (by tb_rel) ?_
      intro x hx
      (repeat' tb_start)
      rw [AH.set_set]
      rw [AH.set_set] at hx
      exact h _ _ (show foundP σ d = some (vw "}" d, { σ with empty := false, forced := true }) by unfold foundP; rw [ho, hem]; rfl) x _ (AH.set_self _ _ _) ((J.setL (σ' := { σ with empty := false, forced := true }) rfl J.dsh).new hx) (Keep.refl.setL.new hx)
    | false =>
      refine ite_f ff ?_
      repeat' tb_start
      cases hk : (d.kind == "end") with
      | true =>
        refine ite_t rfl ?_
        repeat' tb_start
        have hq0 : foundP σ d = endP σ d := by unfold foundP; rw [ho, hem, hk]; rfl
        refine ended_spec J e (fun pd σ' hq p ah' ep J' K' => ?_) (fun hq => hX (hq0.trans hq))
        (repeat' tb_start)
        exact h _ _ (hq0.trans hq) p ah' ep J' K'
      | false =>
        refine ite_f ff ?_
        refine Ex.nil ?_
        refine Ex.cons ?_
        refine Ex1.if ?_
        refine Ts.mono (Q := fun v ah1 => v = decide (σ.aligned = false ∧ (d.first = true ∨ σ.forced = true)) ∧ ah1 = ah) ?_ ?_
        · repeat' tb_start
          cases ha : σ.aligned with
          | true => exact ite_f (by decide) ⟨by simp, rfl⟩
          | false =>
            refine ite_t (by decide) ?_
            repeat' tb_start
            cases hf : d.first with
            | true =>
              refine ite_t rfl ?_
              refine ite_t rfl ?_
              exact Ts.andNil ⟨by simp, rfl⟩
            | false =>
              refine ite_f ff ?_
              repeat' tb_start
              cases hfo : σ.forced with
              | true =>
                refine ite_t rfl ?_
                refine ite_t rfl ?_
                exact Ts.andNil ⟨by simp, rfl⟩
              | false =>
                refine ite_f ff ?_
                refine Ts.orNil ?_
                exact ite_f ff ⟨by simp, rfl⟩
        · rintro v ah1 ⟨rfl, rfl⟩
          by_cases hc : σ.aligned = false ∧ (d.first = true ∨ σ.forced = true)
          · refine ite_t (decide_eq_true hc) ?_
            repeat' tb_start
            refine aligned_spec J e ?_
            intro p ah' ep J' K'
            (repeat' tb_start)
            exact h _ _ (by unfold foundP; rw [if_neg (by rw [ho]; exact ff), if_neg (by rw [hem]; exact ff), if_neg (by rw [hk]; exact ff), if_pos hc]) p ah' ep J' K'
          · refine ite_f (by simpa using hc) ?_
            (repeat' tb_start)
            exact h _ _ (by unfold foundP; rw [if_neg (by rw [ho]; exact ff), if_neg (by rw [hem]; exact ff), if_neg (by rw [hk]; exact ff), if_neg hc]) r _ e J Keep.refl


noncomputable def ShAt (ah : AH) (sh : AV) (pd : Option WD) : Prop := match pd with
  | none => sh = .none
  | some d => ∃ p, sh = .ref p ∧ ah p = some (WoO d)
theorem peek0_spec (J : LAt ah L ws st refs ds σ .none) (hd : ds[σ.at_]? = some d) (hz : ds.length ≤ 1000) (hs : σ.stack.length < 1000)
    (h : ∀ pd σ', foundP σ d = some (pd, σ') → ∀ p ah', ah' p = some (WoO pd) → LAt ah' L ws st refs ds σ' (.ref p) → Keep L st ah ah' → Q (.ref p) ah') (hX : foundP σ d = none → ∀ ah', Keep L st ah ah' → X ah') : Fn w (n + 6) (.ref 332) [.ref L] ah Q X := by
  refine Fn.def (lb := [("self", .ref L)]) (by k_is) (by k_is) (b1 fun _ => rfl) (locs_of rfl) rfl rfl rfl (by decide) ?_
  have eL := J.eL
  repeat' tb_start
  refine ite_t rfl ?_
  repeat' tb_start
  refine found_spec J hd hz hs (fun pd σ' hq p ah' ep J' K' => ?_) hX
  have eL' := J'.eL
  obtain ⟨n1, n2, n3⟩ := J'.word ep
  (repeat' tb_start)
  exact h pd σ' hq p _ (by tb_rel) (J'.setL (σ' := σ') (sh' := .ref p) rfl rfl) K'.setL
theorem peek1_spec {p : Addr} (J : LAt ah L ws st refs ds σ (.ref p)) (h : Q (.ref p) ah) : Fn w (n + 1) (.ref 332) [.ref L] ah Q X := by
  refine Fn.def (lb := [("self", .ref L)]) (by k_is) (by k_is) (b1 fun _ => rfl) (locs_of rfl) rfl rfl rfl (by decide) ?_
  have ff : ¬ ((false : Bool) = true) := by decide
  have eL := J.eL
  repeat' tb_start
  refine ite_f ff ?_
  (repeat' tb_start) <;> exact h
end

noncomputable def openers : List Str := ["let", "where", "do", "of"]
noncomputable def nextOpen (ds : List WD) (k : Nat) : Bool := match ds[k]? with
  | some dn => !isW dn "special" "{"
  | none => true
noncomputable def passP (ds : List WD) (σ : MS) (d : WD) : MS :=
  if isW d "special" "{" then ⟨σ.at_ + 1, σ.stack ++ [0], σ.opening, σ.empty, false, false⟩
  else if isW d "special" "}" then ⟨σ.at_ + 1, σ.stack.dropLast, σ.opening, σ.empty, false, false⟩
  else if d.kind == "key" && openers.any (· == d.text) then ⟨σ.at_ + 1, σ.stack, nextOpen ds (σ.at_ + 1), σ.empty, false, false⟩
  else ⟨σ.at_ + 1, σ.stack, σ.opening, σ.empty, false, false⟩
noncomputable def badP (σ : MS) (d : WD) : Bool := isW d "special" "}" && (decide (σ.stack = []) || decide (topP σ.stack ≠ 0))
noncomputable def nextP (ds : List WD) (σ : MS) (d : WD) : Option (WD × MS) :=
  if isV d then some (d, σ) else if badP σ d then none else if d.kind == "end" then some (d, σ) else some (d, passP ds σ d)

section
variable {w : World} {n : Nat} {ah : AH} {X : AH → Prop} {Q : AV → AH → Prop} {L ws st r : Addr} {refs : List Addr} {ds : List WD} {σ : MS} {sh : AV} {d : WD}
theorem pass_spec (J : LAt ah L ws st refs ds σ sh) (e : ah r = some (WoO d)) (hz : ds.length ≤ 1000) (hs : σ.stack.length < 1000) (hn : ∃ dn, ds[σ.at_ + 1]? = some dn) (hb : badP σ d = false)
    (h : ∀ ah', LAt ah' L ws st refs ds (passP ds σ d) sh → Keep L st ah ah' → Q .none ah') : Fn w (n + 4) (.ref 346) [.ref L, .ref r] ah Q X := by
  refine Fn.def (lb := [("self", .ref L), ("word", .ref r)]) (by k_is) (by k_is) (b2 fun _ _ => rfl) (locs_of rfl) rfl rfl rfl (by decide) ?_
  have ff : ¬ ((false : Bool) = true) := by decide
  have eL := J.eL
  have es := J.es
  have ew := J.ew
  obtain ⟨n1, n2, n3⟩ := J.word e
  have nLw := J.nLw
  have nLs := J.nLs
  have hsz := J.hsz
  obtain ⟨dn, hdn⟩ := hn
  obtain ⟨q, hq, eq⟩ := J.wd.get hdn
  obtain ⟨m1, m2, m3⟩ := J.word eq
  have hlt : σ.at_ + 1 < ds.length := (List.getElem?_eq_some_iff.mp hdn).1
  have J1 := J.setL (σ' := ⟨σ.at_ + 1, σ.stack, σ.opening, σ.empty, false, false⟩) (sh' := sh) rfl J.dsh
  repeat' tb_start
  refine is_word_spec (d := d) (by tb_rel) ?_
  repeat' tb_start
  unfold passP at h
  cases h1 : isW d "special" "{" with
  | true =>
    rw [h1, if_pos rfl] at h
    refine ite_t h1 ?_
    (repeat' tb_start)
    simp only [AH.set_set]
    have J2 := J1.setS (s' := σ.stack ++ [0]) (by rw [List.length_append]; simp; omega)
    rw [List.map_append] at J2
    exact h _ J2 Keep.refl.setL.setS
  | false =>
    rw [h1, if_neg ff] at h
    refine ite_f (fun z => ff (h1.symm.trans z)) ?_
    repeat' tb_start
    refine is_word_spec (d := d) (by tb_rel) ?_
    repeat' tb_start
    cases h2 : isW d "special" "}" with
    | true =>
      rw [h2, if_pos rfl] at h
      refine ite_t h2 ?_
      have h0 : σ.stack ≠ [] := by
        intro z
        unfold badP at hb
        rw [h2, z] at hb
        exact absurd hb (by decide)
      have es' : ah st = some (.list (σ.stack.dropLast.map AV.int ++ [.int (topP σ.stack)])) := by rw [← last_pop h0]; exact es
      clear es
      repeat' tb_start
      refine Fn.pop (by tb_rel) (by simp; omega) ?_
      (repeat' tb_start)
      simp only [AH.set_set]
      exact h _ (J1.setS (s' := σ.stack.dropLast) (by simp; omega)) Keep.refl.setL.setS
    | false =>
      rw [h2, if_neg ff] at h
      refine ite_f (fun z => ff (h2.symm.trans z)) ?_
      refine Ex.cons ?_
      refine Ex1.if ?_
      refine Ts.still (P := fun v => v = (d.kind == "key" && openers.any (· == d.text))) ?_ ?_
      · repeat' tb_start
        cases hk : d.kind == "key" with
        | true =>
          refine ite_t rfl ?_
          repeat' tb_start
          cases ho : openers.any (· == d.text) with
          | true => exact ite_t ho (Ts.andNil ⟨rfl, rfl⟩)
          | false => exact ite_f (fun z => ff (ho.symm.trans z)) ⟨rfl, rfl⟩
        | false => exact ite_f ff ⟨rfl, rfl⟩
      · rintro v rfl
        cases hc : (d.kind == "key" && openers.any (· == d.text)) with
        | true =>
          rw [hc, if_pos rfl] at h
          refine ite_t rfl ?_
          repeat' tb_start
          refine Sub.list (vs := refs.map AV.ref) (x := .ref q) (by tb_rel) (by omega) (by omega) (by
            have : ((σ.at_ : Int) + 1).toNat = σ.at_ + 1 := by omega
            rw [this, List.getElem?_map, hq]; rfl) (by intro _ _; rfl) ?_
          repeat' tb_start
          refine is_word_spec (d := dn) (by tb_rel) ?_
          (repeat' tb_start)
          simp only [AH.set_set]
          have : nextOpen ds (σ.at_ + 1) = !isW dn "special" "{" := by unfold nextOpen; rw [hdn]
          rw [this] at h
          exact h _ (J.setL (σ' := ⟨σ.at_ + 1, σ.stack, !isW dn "special" "{", σ.empty, false, false⟩) rfl J.dsh) Keep.refl.setL
        | false =>
          rw [hc, if_neg ff] at h
          refine ite_f ff ?_
          (repeat' tb_start)
          simp only [AH.set_set]
          exact h _ J1 Keep.refl.setL

theorem next_spec {pd : WD} {σ0 σ1 : MS} {sh0 : AV} (eL : ah L = some (LyO ws st σ0 sh0)) (hp : ∀ {Q' : AV → AH → Prop}, (∀ p ah1, ah1 p = some (WoO pd) → LAt ah1 L ws st refs ds σ1 (.ref p) → Keep L st ah ah1 → Q' (.ref p) ah1) → Fn w (n + 6) (.ref 332) [.ref L] ah Q' X)
    (hz : ds.length ≤ 1000) (hs : σ1.stack.length < 1000) (hn : pd.kind ≠ "end" → isV pd = false → ∃ dn, ds[σ1.at_ + 1]? = some dn)
    (h : ∀ σ', nextP ds σ1 pd = some (pd, σ') → ∀ p ah' sh', ah' p = some (WoO pd) → (sh' = .none ∨ pd.kind = "end") → LAt ah' L ws st refs ds σ' sh' → Keep L st ah ah' → Q (.ref p) ah')
    (hX : nextP ds σ1 pd = none → ∀ ah', Keep L st ah ah' → X ah') : Fn w (n + 7) (.ref 339) [.ref L] ah Q X := by
  refine Fn.def (lb := [("self", .ref L)]) (by k_is) (by k_is) (b1 fun _ => rfl) (locs_of rfl) rfl rfl rfl (by decide) ?_
  have ff : ¬ ((false : Bool) = true) := by decide
  repeat' tb_start
  refine hp ?_
  intro p ah1 ep J K
  clear eL
  obtain ⟨n1, n2, n3⟩ := J.word ep
  have eL := J.eL
  have es := J.es
  have nLs := J.nLs
  have hsz := J.hsz
  repeat' tb_start
  refine is_virtual_spec ep ?_
  repeat' tb_start
  unfold nextP at h hX
  cases hv : isV pd with
  | true =>
    rw [hv] at h
    refine ite_t rfl ?_
    (repeat' tb_start)
    exact h σ1 rfl p _ .none (by tb_rel) (.inl rfl) (J.setL (σ' := σ1) (sh' := .none) rfl rfl) K.setL
  | false =>
    rw [hv, if_neg ff] at h hX
    refine ite_f ff ?_
    refine Ex.nil ?_
    refine Ex.cons ?_
    refine Ex1.if ?_
    refine Ts.mono (Q := fun v ah2 => v = badP σ1 pd ∧ LAt ah2 L ws st refs ds σ1 (.ref p) ∧ ah2 p = some (WoO pd) ∧ Keep L st ah ah2) ?_ ?_
    · repeat' tb_start
      refine is_word_spec ep ?_
      repeat' tb_start
      cases h1 : isW pd "special" "}" with
      | false => exact ite_f (fun z => ff (h1.symm.trans z)) ⟨by unfold badP; rw [h1]; rfl, J, ep, K⟩
      | true =>
        refine ite_t h1 ?_
        repeat' tb_start
        intro b hb
        repeat' tb_start
        have nb : st ≠ b := AH.ne_of es hb
        have J1 := J.new (o := .list []) hb
        have K1 := K.new (o := .list []) hb
        cases h0 : σ1.stack.getLast? with
        | none =>
          have hnil : σ1.stack = [] := List.getLast?_eq_none_iff.mp h0
          refine ite_t (by rw [hnil]; rfl) ?_
          refine ite_t rfl ?_
          exact Ts.andNil ⟨by unfold badP; rw [h1, hnil]; rfl, J1, by tb_rel, K1⟩
        | some t =>
          refine ite_f (by cases hq : σ1.stack with | nil => rw [hq] at h0; cases h0 | cons _ _ => exact ff) ?_
          repeat' tb_start
          refine Sub.last (vs := σ1.stack.map AV.int) (by tb_rel) (by rw [List.getLast?_map, h0]; rfl) (by intro _ _; rfl) ?_
          repeat' tb_start
          have ht : topP σ1.stack = t := by unfold topP; rw [h0]; rfl
          have hne : σ1.stack ≠ [] := by intro z; rw [z] at h0; cases h0
          by_cases hz0 : t = 0
          · refine ite_f (by rw [hz0]; decide) ?_
            refine Ts.orNil ?_
            refine ite_f ff ?_
            exact ⟨by unfold badP; rw [h1, ht, hz0]; simp [hne], J1, by tb_rel, K1⟩
          · refine ite_t (by simpa using hz0) ?_
            refine ite_t rfl ?_
            exact Ts.andNil ⟨by unfold badP; rw [h1, ht]; simp [hz0], J1, by tb_rel, K1⟩
    · rintro v ah2 ⟨rfl, J2, ep2, K2⟩
      have eL2 := J2.eL
      cases hb : badP σ1 pd with
      | true =>
        rw [hb] at hX
        refine ite_t rfl ?_
        repeat' tb_start
        refine wplace_spec (d := pd) (by tb_rel) ?_
        intro c hc
        (repeat' tb_start)
        exact hX rfl _ (K2.new hc)
      | false =>
        rw [hb, if_neg ff] at h hX
        refine ite_f ff ?_
        repeat' tb_start
        cases hk : pd.kind == "end" with
        | true =>
          rw [hk] at h
          refine ite_f (by rw [show (pd.kind != Str.ofString "end") = false from by rw [bne, hk]; rfl]; exact ff) ?_
          (repeat' tb_start)
          exact h σ1 rfl p _ _ ep2 (.inr (eq_of_beq hk)) J2 K2
        | false =>
          rw [hk, if_neg ff] at h
          have hke := ne_of_beq_false hk
          refine ite_t (by rw [bne, hk]; rfl) ?_
          repeat' tb_start
          have J3 := J2.setL (σ' := σ1) (sh' := .none) rfl rfl
          refine pass_spec J3 (d := pd) (by tb_rel) hz hs (hn hke hv) hb ?_
          intro ah3 J4 K4
          (repeat' tb_start)
          exact h _ rfl p _ .none (K4 _ _ n1 n2 (by tb_rel)) (.inl rfl) J4 (K2.setL.trans K4)
theorem next_raise (J : LAt ah L ws st refs ds σ .none) (hd : ds[σ.at_]? = some d) (hz : ds.length ≤ 1000) (hs : σ.stack.length < 1000) (hf : foundP σ d = none) (hX : ∀ ah', Keep L st ah ah' → X ah') : Fn w (n + 7) (.ref 339) [.ref L] ah Q X := by
  refine Fn.def (lb := [("self", .ref L)]) (by k_is) (by k_is) (b1 fun _ => rfl) (locs_of rfl) rfl rfl rfl (by decide) ?_
  have eL := J.eL
  repeat' tb_start
  exact peek0_spec J hd hz hs (fun pd σ' hq => by rw [hf] at hq; cases hq) fun _ => hX
end

noncomputable def initP (d0 : WD) : MS := ⟨0, [], !isW d0 "special" "{" && !isW d0 "key" "module", false, false, false⟩
section
variable {w : World} {n : Nat} {ah : AH} {X : AH → Prop} {Q : AV → AH → Prop} {L ws st r p : Addr} {refs : List Addr} {ds : List WD} {σ : MS} {sh : AV} {d pd : WD}
theorem layout_spec (ew : ah ws = some (.list (refs.map AV.ref))) (wd : WsAt ah refs ds) (hd : ds[0]? = some d) (h : ∀ x st ah', ah x = none → ah st = none → LAt ah' x ws st refs ds (initP d) .none → Ext ah ah' → Q (.ref x) ah') : Fn w (n + 3) (.ref 398) [.ref ws] ah Q X := by
  have ff : ¬ ((false : Bool) = true) := by decide
  obtain ⟨r, hr, e⟩ := wd.get hd
  refine Fn.cls (f := 325) (lb := fun x => [("self", .ref x), ("words", .ref ws)]) (by k_is) (by k_is) (by k_is) (by k_is) (by k_is) (fun x => b2 fun _ _ => rfl) (fun x => locs_of rfl) rfl rfl rfl (by decide) ?_
  intro x hx
  have nxw : ws ≠ x := AH.ne_of ew hx
  have nxr : r ≠ x := AH.ne_of e hx
  repeat' tb_start
  intro s hs
  simp only [AH.set_set] at hs ⊢
  have nsx : s ≠ x := by rintro rfl; rw [AH.set_self] at hs; cases hs
  have ns : ah s = none := by rwa [AH.set_ne _ _ nsx] at hs
  have nws : ws ≠ s := AH.ne_of ew ns
  have nrs : r ≠ s := AH.ne_of e ns
  have nxs : x ≠ s := nsx.symm
  repeat' tb_start
  have fin : ∀ A, LAt (((ah.set x A).set s (.list [])).set x (LyO ws s (initP d) .none)) x ws s refs ds (initP d) .none := fun A =>
    ⟨AH.set_self _ _ _, (AH.set_ne _ _ nxw).trans ((AH.set_ne _ _ nws).trans ((AH.set_ne _ _ nxw).trans ew)), wd.mono fun r d e => (AH.set_ne _ _ (AH.ne_of e hx)).trans ((AH.set_ne _ _ (AH.ne_of e ns)).trans ((AH.set_ne _ _ (AH.ne_of e hx)).trans e)), (AH.set_ne _ _ nsx).trans (AH.set_self _ _ _), nws, rfl, by show ([] : List Int).length ≤ 1000; decide⟩
  have ext : ∀ A Z, Ext ah (((ah.set x A).set s (.list [])).set x Z) := fun A Z => ((Ext.refl.upd hx).upd ns).upd hx
  refine Sub.list (vs := refs.map AV.ref) (x := .ref r) (by tb_rel) (by decide) (by decide) (by rw [show (0 : Int).toNat = 0 from rfl, List.getElem?_map, hr]; rfl) (by intro _ _; rfl) ?_
  repeat' tb_start
  refine is_word_spec (d := d) (by tb_rel) ?_
  repeat' tb_start
  cases h1 : isW d "special" "{" with
  | true =>
    have e1 : (initP d).opening = false := by show (!isW d "special" "{" && _) = false; rw [h1]; rfl
    refine ite_f (by rw [show (d.kind == Str.ofString "special" && d.text == Str.ofString "{") = true from h1]; decide) ?_
    (repeat' tb_start)
    simp only [AH.set_set]
    have f2 := fin (.inst 398 (putF "at" (.int 0) (putF "words" (.ref ws) [])))
    unfold LyO at f2
    rw [e1] at f2
    rw [show (d.kind == Str.ofString "special" && d.text == Str.ofString "{") = true from h1]
    exact h x s _ hx ns f2 (ext _ _)
  | false =>
    have e1 : (initP d).opening = !isW d "key" "module" := by show (!isW d "special" "{" && _) = _; rw [h1]; rfl
    refine ite_t (by rw [show (d.kind == Str.ofString "special" && d.text == Str.ofString "{") = false from h1]; decide) ?_
    repeat' tb_start
    refine Sub.list (vs := refs.map AV.ref) (x := .ref r) (by tb_rel) (by decide) (by decide) (by rw [show (0 : Int).toNat = 0 from rfl, List.getElem?_map, hr]; rfl) (by intro _ _; rfl) ?_
    repeat' tb_start
    refine is_word_spec (d := d) (by tb_rel) ?_
    (repeat' tb_start)
    simp only [AH.set_set]
    have f2 := fin (.inst 398 (putF "at" (.int 0) (putF "words" (.ref ws) [])))
    unfold LyO at f2
    rw [e1] at f2
    exact h x s _ hx ns f2 (ext _ _)

theorem close_spec (J : LAt ah L ws st refs ds σ (.ref p)) (ep : ah p = some (WoO pd)) (h : ∀ ah' b σ', (isV pd = true ∨ topP σ.stack = 0) → b = false → σ' = σ → LAt ah' L ws st refs ds σ' (.ref p) → Keep L st ah ah' → Q (.bool b) ah')
    (h2 : ∀ ah', isV pd = false → topP σ.stack ≠ 0 → LAt ah' L ws st refs ds { σ with stack := σ.stack.dropLast } (.ref p) → Keep L st ah ah' → Q (.bool true) ah') : Fn w (n + 2) (.ref 353) [.ref L] ah Q X := by
  refine Fn.def (lb := [("self", .ref L)]) (by k_is) (by k_is) (b1 fun _ => rfl) (locs_of rfl) rfl rfl rfl (by decide) ?_
  have ff : ¬ ((false : Bool) = true) := by decide
  have eL := J.eL
  have hsz := J.hsz
  repeat' tb_start
  refine peek1_spec J ?_
  repeat' tb_start
  refine is_virtual_spec ep ?_
  repeat' tb_start
  cases hv : isV pd with
  | true =>
    refine ite_t rfl ?_
    refine ite_t rfl ?_
    (repeat' tb_start)
    exact h _ _ _ (.inl hv) rfl rfl J Keep.refl
  | false =>
    refine ite_f ff ?_
    repeat' tb_start
    refine top_spec J ?_
    intro ah1 k1
    have J1 := J.ext k1
    have eL1 := J1.eL
    have es1 := J1.es
    repeat' tb_start
    by_cases ht : topP σ.stack = 0
    · refine ite_t (by rw [ht]; rfl) ?_
      refine ite_t rfl ?_
      (repeat' tb_start)
      exact h _ _ _ (.inr ht) rfl rfl J1 (Keep.refl.ext k1)
    · refine ite_f (by simpa using ht) ?_
      repeat' tb_start
      refine ite_f ff ?_
      have h0 : σ.stack ≠ [] := by intro z; apply ht; rw [z]; rfl
      have es' : ah1 st = some (.list (σ.stack.dropLast.map AV.int ++ [.int (topP σ.stack)])) := by rw [← last_pop h0]; exact es1
      clear es1
      repeat' tb_start
      refine Fn.pop (by tb_rel) (by simp; omega) ?_
      (repeat' tb_start)
      exact h2 _ hv ht J1.pop (Keep.refl.ext k1).setS
theorem shown_spec (e : ah r = some (WoO d)) (hl : d.text.length ≤ 1000) (h : Q (.str ((if isV d then "v" else "") ++ d.text)) ah) : Fn w (n + 1) (.ref 454) [.ref r] ah Q X := by
  refine Fn.def (lb := [("word", .ref r)]) (by k_is) (by k_is) (b1 fun _ => rfl) (locs_of rfl) rfl rfl rfl (by decide) ?_
  have ff : ¬ ((false : Bool) = true) := by decide
  obtain ⟨kd, tx, l, k, v, f⟩ := d
  dsimp only at hl h ⊢
  refine Ex.cons ?_
  refine Ex1.ret ?_
  refine Ev.binop ?_
  refine Ev.ifexp ?_
  refine Ts.still (P := fun b => b = isV ⟨kd, tx, l, k, v, f⟩) ?_ ?_
  · unfold isV
    dsimp only
    cases v with
    | true =>
      repeat' tb_start
      cases hk : (kd == "special") with
      | true =>
        refine ite_t rfl ?_
        repeat' tb_start
        refine Cop.eqs (x := "virtual") ?_
        repeat' tb_start
        exact ite_t rfl (Ts.andNil ⟨rfl, rfl⟩)
      | false => exact ite_f ff ⟨rfl, rfl⟩
    | false =>
      repeat' tb_start
      cases hk : (kd == "special") with
      | true =>
        refine ite_t rfl ?_
        repeat' tb_start
        refine Cop.eqns ?_
        repeat' tb_start
        exact ite_f ff ⟨rfl, rfl⟩
      | false => exact ite_f ff ⟨rfl, rfl⟩
  · rintro b rfl
    cases hv : isV ⟨kd, tx, l, k, v, f⟩ with
    | true =>
      rw [hv] at h
      refine ite_t rfl ?_
      repeat' tb_start
      refine Bop.adds (by rw [sizeLine_eq, show (Str.ofString "v").length = 1 from rfl]; show 1 + tx.length ≤ _; omega) ?_
      (repeat' tb_start) <;> exact h
    | false =>
      rw [hv] at h
      refine ite_f ff ?_
      repeat' tb_start
      refine Bop.adds (by rw [sizeLine_eq, show (Str.ofString "").length = 0 from rfl]; show 0 + tx.length ≤ _; omega) ?_
      (repeat' tb_start) <;> exact h
end

noncomputable def stepR (ds : List WD) (σ : MS) : Option (WD × MS) := (ds[σ.at_]?).bind fun d => (foundP σ d).bind fun x => nextP ds x.2 x.1
inductive Run (ds : List WD) : Nat → MS → Option (List WD) → Prop
  | fin {σ σ' : MS} {pd : WD} (hz : σ.stack.length < 999 ∧ ∀ x ∈ σ.stack, 0 ≤ x) (h : stepR ds σ = some (pd, σ')) (e : pd.kind = "end") : Run ds 0 σ (some [pd])
  | err {σ : MS} (hz : σ.stack.length < 999 ∧ ∀ x ∈ σ.stack, 0 ≤ x) (hd : ∃ d, ds[σ.at_]? = some d) (h : stepR ds σ = none) : Run ds 0 σ none
  | step {k : Nat} {σ σ' : MS} {pd : WD} {r : Option (List WD)} (hz : σ.stack.length < 999 ∧ ∀ x ∈ σ.stack, 0 ≤ x) (h : stepR ds σ = some (pd, σ')) (e : pd.kind ≠ "end") (R : Run ds k σ' r) : Run ds (k + 1) σ (r.map (pd :: ·))
structure WF (ds : List WD) : Prop where
  z : ds.length ≤ 1000
  nv : ∀ d ∈ ds, d.v = false
  nx : ∀ (i : Nat) d, ds[i]? = some d → d.kind ≠ "end" → ∃ dn, ds[i + 1]? = some dn
theorem vw_isV (t : Str) (d : WD) : isV (vw t d) = true := rfl
theorem foundP_facts {σ σ1 : MS} {d pd : WD} (h : foundP σ d = some (pd, σ1)) : (isV pd = true ∨ pd = d) ∧ σ1.at_ = σ.at_ ∧ σ1.stack.length ≤ σ.stack.length + 1 := by
  unfold foundP openP endP alignP at h
  split at h
  · split at h <;> (cases h; exact ⟨.inl rfl, rfl, by simp⟩)
  · split at h
    · cases h; exact ⟨.inl rfl, rfl, by simp⟩
    · split at h
      · split at h
        · cases h; exact ⟨.inr rfl, rfl, by simp⟩
        · split at h
          · cases h
          · cases h; exact ⟨.inl rfl, rfl, by simp; omega⟩
      · split at h
        · split at h
          · cases h; exact ⟨.inl rfl, rfl, by simp; omega⟩
          · split at h
            · cases h; exact ⟨.inl rfl, rfl, by simp⟩
            · cases h; exact ⟨.inr rfl, rfl, by simp⟩
        · cases h; exact ⟨.inr rfl, rfl, by simp⟩
theorem nextP_facts {ds : List WD} {σ σ' : MS} {d pd : WD} (h : nextP ds σ d = some (pd, σ')) : pd = d := by
  unfold nextP at h
  split at h
  · cases h; rfl
  · split at h
    · cases h
    · split at h <;> (cases h; rfl)
theorem Keep.toExt {L st : Addr} {a b c : AH} (h : Ext a b) (k : Keep L st b c) (h1 : a L = none) (h2 : a st = none) : Ext a c := fun x o e => k x o (AH.ne_of e h1) (AH.ne_of e h2) (h x o e)
theorem WsAt.keep {ah ah' : AH} {L ws st : Addr} {refs rs : List Addr} {ds ds' : List WD} {σ : MS} {sh : AV} (h : WsAt ah rs ds') (J : LAt ah L ws st refs ds σ sh) (k : Keep L st ah ah') : WsAt ah' rs ds' :=
  h.mono fun r d e => k r _ (J.word e).1 (J.word e).2.1 e

section
variable {w : World} {n : Nat} {ah : AH} {X : AH → Prop} {Q : AV → AH → Prop} {L ws st r p : Addr} {refs : List Addr} {ds : List WD} {σ : MS} {sh : AV} {d pd : WD}
theorem nextR_spec (J : LAt ah L ws st refs ds σ .none) (W : WF ds) (hs : σ.stack.length < 999) (hd : ∃ d, ds[σ.at_]? = some d)
    (h : ∀ pd σ', stepR ds σ = some (pd, σ') → ∀ p ah' sh', ah' p = some (WoO pd) → (sh' = .none ∨ pd.kind = "end") → LAt ah' L ws st refs ds σ' sh' → Keep L st ah ah' → Q (.ref p) ah')
    (hX : stepR ds σ = none → ∀ ah', Keep L st ah ah' → X ah') : Fn w (n + 7) (.ref 339) [.ref L] ah Q X := by
  obtain ⟨d, hd⟩ := hd
  cases hf : foundP σ d with
  | none => exact next_raise J hd W.z (by omega) hf (hX (by unfold stepR; rw [hd, Option.bind_some, hf]; rfl))
  | some y =>
    obtain ⟨pd, σ1⟩ := y
    obtain ⟨f1, f2, f3⟩ := foundP_facts hf
    have hst : stepR ds σ = nextP ds σ1 pd := by unfold stepR; rw [hd, Option.bind_some, hf]; rfl
    refine next_spec (refs := refs) (pd := pd) (σ1 := σ1) J.eL (fun {Q'} k => peek0_spec J hd W.z (by omega) (fun pd' σ' hq p ah1 e1 J1 K1 => ?_) (fun z => by rw [hf] at z; cases z)) W.z (by omega) (fun hk hv => ?_) (fun σ' hq => ?_) (fun hq => hX (hst.trans hq))
    · rw [hf] at hq; cases hq
      exact k p ah1 e1 J1 K1
    · rcases f1 with f1 | rfl
      · rw [f1] at hv; cases hv
      · rw [f2]; exact W.nx _ _ hd hk
    · exact h pd σ' (hst.trans hq)

structure LJ (ah : AH) (ds : List WD) (ws : Addr) (refs : List Addr) (res : Option (List WD)) (kk : Nat) (m' : Loc) (ah' : AH) (L st F : Addr) (rs : List Addr) (done : List WD) (σ : MS) (sh : AV) (dl : WD) : Prop where
  m1 : m' "layout" = some (.ref L)
  m2 : m' "found" = some (.ref F)
  eF : ah' F = some (.list (rs.map AV.ref))
  wf : WsAt ah' rs done
  J : LAt ah' L ws st refs ds σ sh
  ex : Ext ah ah'
  nL : ah L = none
  ns : ah st = none
  nF : ah F = none
  FL : F ≠ L
  Fs : F ≠ st
  la : done.getLast? = some dl
  zz : done.length + kk ≤ 1000
  st : (dl.kind = "end" ∧ res = some done ∧ kk = 0) ∨ (dl.kind ≠ "end" ∧ sh = .none ∧ ∃ k r, kk = k + 1 ∧ Run ds k σ r ∧ res = r.map (done ++ ·))
theorem Run.at {ds : List WD} {k : Nat} {σ : MS} {r : Option (List WD)} (R : Run ds k σ r) : σ.stack.length < 999 ∧ ∃ d, ds[σ.at_]? = some d := by
  have key : ∀ {x}, stepR ds σ = some x → ∃ d, ds[σ.at_]? = some d := fun {x} h => by
    unfold stepR at h
    cases q : ds[σ.at_]? with
    | none => rw [q] at h; cases h
    | some d => exact ⟨d, rfl⟩
  cases R with
  | fin hz h _ => exact ⟨hz.1, key h⟩
  | err hz hd _ => exact ⟨hz.1, hd⟩
  | step hz h _ _ => exact ⟨hz.1, key h⟩
theorem Run.nn {ds : List WD} {k : Nat} {σ : MS} {r : Option (List WD)} (R : Run ds k σ r) : ∀ x ∈ σ.stack, 0 ≤ x := by
  cases R with
  | fin hz _ _ => exact hz.2
  | err hz _ _ => exact hz.2
  | step hz _ _ _ => exact hz.2
theorem Run.next {ds : List WD} {k : Nat} {σ σ' : MS} {r res : Option (List WD)} {pd : WD} {done : List WD} (R : Run ds k σ r) (h : stepR ds σ = some (pd, σ')) (hres : res = r.map (done ++ ·)) :
    (pd.kind = "end" ∧ res = some (done ++ [pd])) ∨ (pd.kind ≠ "end" ∧ ∃ k' r', k = k' + 1 ∧ Run ds k' σ' r' ∧ res = r'.map ((done ++ [pd]) ++ ·)) := by
  cases R with
  | fin _ hh e => rw [h] at hh; cases hh; exact .inl ⟨e, hres⟩
  | err _ _ hh => rw [h] at hh; cases hh
  | @step k' _ _ _ r' _ hh e R' =>
    rw [h] at hh; cases hh
    refine .inr ⟨e, k', r', rfl, R', ?_⟩
    rw [hres, Option.map_map]
    congr 1
    funext x
    simp
theorem LAt.setO {ah : AH} {L ws st F : Addr} {refs : List Addr} {ds : List WD} {σ : MS} {sh : AV} {vs vs' : List AV} (h : LAt ah L ws st refs ds σ sh) (eF : ah F = some (.list vs)) (h1 : F ≠ L) (h2 : F ≠ st) (h3 : F ≠ ws) : LAt (ah.set F (.list vs')) L ws st refs ds σ sh :=
  ⟨(AH.set_ne _ _ h1.symm).trans h.eL, (AH.set_ne _ _ h3.symm).trans h.ew, h.wd.mono (ah_or eF (by intro d z; cases z)), (AH.set_ne _ _ h2.symm).trans h.es, h.ne, h.dsh, h.hsz⟩
theorem laid_words_spec {res : Option (List WD)} {k0 : Nat} (ew : ah ws = some (.list (refs.map AV.ref))) (wd : WsAt ah refs ds) (W : WF ds) (hd : ds[0]? = some d) (R : Run ds k0 (initP d) res) (hk0 : k0 ≤ 900)
    (h : ∀ outs, res = some outs → ∀ F rs ah', ah F = none → ah' F = some (.list (rs.map AV.ref)) → WsAt ah' rs outs → Ext ah ah' → Q (.ref F) ah') (hX : res = none → ∀ ah', Ext ah ah' → X ah') : Fn w (n + 8) (.ref 409) [.ref ws] ah Q X := by
  refine Fn.def (lb := [("words", .ref ws)]) (by k_is) (by k_is) (b1 fun _ => rfl) (locs_of rfl) rfl rfl rfl (by decide) ?_
  have ff : ¬ ((false : Bool) = true) := by decide
  repeat' tb_start
  refine layout_spec ew wd hd ?_
  intro L st ah1 nL ns J ex
  have eL := J.eL
  repeat' tb_start
  refine nextR_spec J W R.at.1 R.at.2 (fun pd σ' hst p ah2 sh' ep hsh J2 K2 => ?_) (fun hst ah2 K2 => hX ?_ ah2 (K2.toExt ex nL ns))
  · repeat' tb_start
    intro F hF
    have ex2 := K2.toExt ex nL ns
    have nF : ah F = none := ex2.none hF
    have FL : F ≠ L := (AH.ne_of J2.eL hF).symm
    have Fs : F ≠ st := (AH.ne_of J2.es hF).symm
    have npF : p ≠ F := AH.ne_of ep hF
    repeat' tb_start
    refine Ex1.while (fun kk m' ah' => ∃ L st F rs done σ sh dl, LJ ah ds ws refs res kk m' ah' L st F rs done σ sh dl) (if pd.kind = "end" then 0 else k0) ?_ ?_
    · refine ⟨L, st, F, [p], [pd], σ', sh', pd, rfl, rfl, AH.set_self _ _ _, .cons (by tb_rel) .nil, J2.new hF, ex2.new hF, nL, ns, nF, FL, Fs, rfl, by show 1 + _ ≤ 1000; split <;> omega, ?_⟩
      rcases R.next (res := res) (done := []) hst (by simp) with ⟨he, hr⟩ | ⟨he, k', r', rfl, R', hr⟩
      · exact .inl ⟨he, hr, if_pos he⟩
      · exact .inr ⟨he, hsh.resolve_right he, k', r', if_neg he, R', hr⟩
    · rintro kk m' ah' ⟨L, st, F, rs, done, σ, sh, dl, ⟨m1, m2, eF, wf, J, ex, nL, ns, nF, FL, Fs, la, zz, hst⟩⟩
      obtain ⟨r, hr, er⟩ := wf.last la
      repeat' tb_start
      refine Sub.last (by tb_rel) hr (by intro _ _; rfl) ?_
      repeat' tb_start
      rcases hst with ⟨hk, hres, rfl⟩ | ⟨hk, rfl, k, r, rfl, R, hres⟩
      · refine ite_f (by rw [hk]; decide) ?_
        (repeat' tb_start)
        exact h _ hres F rs ah' nF eF wf ex
      · refine ite_t (by simpa using hk) ?_
        have eL := J.eL
        repeat' tb_start
        refine nextR_spec J W R.at.1 R.at.2 (fun pd σ' hst p ah2 sh' ep hsh J2 K2 => ?_) (fun hst ah2 K2 => hX ?_ ah2 (K2.toExt ex nL ns))
        · have eF2 := K2 _ _ FL Fs eF
          have ex2 := K2.toExt ex nL ns
          have wf2 := wf.keep J K2
          have hwl := wf.length
          have npF : p ≠ F := AH.ne_of2 ep eF2 (by intro z; cases z)
          repeat' tb_start
          have Fw : F ≠ ws := (AH.ne_of ew nF).symm
          have w3 : WsAt (ah2.set F (.list (rs.map AV.ref ++ [.ref p]))) (rs ++ [p]) (done ++ [pd]) := (wf2.mono (ah_or eF2 (by intro d z; cases z))).snoc ((AH.set_ne _ _ npF).trans ep)
          have J3 := J2.setO (vs' := rs.map AV.ref ++ [.ref p]) eF2 FL Fs Fw
          have eF3 : (ah2.set F (.list (rs.map AV.ref ++ [.ref p]))) F = some (.list ((rs ++ [p]).map AV.ref)) := by rw [AH.set_self, List.map_append]; rfl
          rcases R.next (res := res) (done := done) hst hres with ⟨he, hr2⟩ | ⟨he, k', r', rfl, R', hr2⟩
          · exact ⟨0, by omega, L, st, F, rs ++ [p], done ++ [pd], σ', sh', pd, m1, m2, eF3, w3, J3, ex2.upd nF, nL, ns, nF, FL, Fs, by simp, by simp; omega, .inl ⟨he, hr2, rfl⟩⟩
          · exact ⟨k' + 1, by omega, L, st, F, rs ++ [p], done ++ [pd], σ', sh', pd, m1, m2, eF3, w3, J3, ex2.upd nF, nL, ns, nF, FL, Fs, by simp, by simp; omega, .inr ⟨he, hsh.resolve_right he, k', r', rfl, R', hr2⟩⟩
        · cases R with
          | fin _ hh _ => rw [hst] at hh; cases hh
          | err _ _ _ => exact hres
          | step _ hh _ _ => rw [hst] at hh; cases hh
  · cases R with
    | fin _ hh _ => rw [hst] at hh; cases hh
    | err _ _ _ => rfl
    | step _ hh _ _ => rw [hst] at hh; cases hh
end

noncomputable def shownP (d : WD) : Str := (if isV d then "v" else "") ++ d.text
theorem WsAt.at {ah : AH} {rs : List Addr} {ds : List WD} (h : WsAt ah rs ds) : ∀ {i : Nat} {r : Addr}, rs[i]? = some r → ∃ d, ds[i]? = some d ∧ ah r = some (WoO d) := by
  induction h with
  | nil => intro i d e; simp at e
  | cons h1 _ ih =>
    intro i d e
    cases i with
    | zero => simp only [List.getElem?_cons_zero, Option.some.injEq] at e; subst e; exact ⟨_, rfl, h1⟩
    | succ i => simp only [List.getElem?_cons_succ] at e ⊢; exact ih e
section
variable {w : World} {n : Nat} {ah : AH} {X : AH → Prop} {Q : AV → AH → Prop} {ws : Addr} {refs : List Addr} {ds : List WD} {d : WD}
theorem told_spec {res : Option (List WD)} {k0 : Nat} (ew : ah ws = some (.list (refs.map AV.ref))) (wd : WsAt ah refs ds) (W : WF ds) (hd : ds[0]? = some d) (R : Run ds k0 (initP d) res) (hk0 : k0 ≤ 900)
    (hl : ∀ outs, res = some outs → outs.length ≤ 1000 ∧ ∀ d ∈ outs, d.text.length ≤ 1000)
    (h : ∀ outs, res = some outs → ∀ F ah', ah' F = some (.list ((outs.map shownP).dropLast.map AV.str)) → Ext ah ah' → Q (.ref F) ah') (hN : res = none → ∀ ah', Ext ah ah' → Q .none ah') : Fn w (n + 9) (.ref 459) [.ref ws] ah Q X := by
  refine Fn.def (lb := [("words", .ref ws)]) (by k_is) (by k_is) (b1 fun _ => rfl) (locs_of rfl) rfl rfl rfl (by decide) ?_
  refine Ex.cons ?_
  refine Ex1.tryNone (X1 := fun ah1 => res = none ∧ Ext ah ah1) rfl (fun ah1 h1 => hN h1.1 ah1 h1.2) ?_
  refine Ex.cons ?_
  refine Ex1.ret ?_
  refine Ev.sliceList0 ?_
  refine Ev.comp (by decide) (by decide) rfl (by decide) (by intro _ _; rfl) ?_
  refine Ev.call (by intro _; exact rfl) (by intro _ _; exact rfl) (by intro _ _; exact rfl) ?_
  repeat' tb_start
  refine laid_words_spec (res := res) ew wd W hd R hk0 (fun outs hr F rs ah' nF eF wf ex => ?_) (fun hr ah' ex => ⟨hr, ex⟩)
  obtain ⟨l1, l2⟩ := hl outs hr
  have hwl := wf.length
  refine ⟨F, rs.map AV.ref, (outs.map shownP).map AV.str, rfl, eF, by simp; omega, by simp [hwl], .inl (by intro _ _; rfl), ⟨fun a => fun z => if z = "word" then some a else none, fun i x hx => Tgt.name rfl rfl, fun i a b ha hb => ?_⟩, fun D hD => ?_⟩
  · rw [List.getElem?_map, Option.map_eq_some_iff] at ha
    obtain ⟨r, hr', rfl⟩ := ha
    obtain ⟨d', hd', er⟩ := wf.at hr'
    rw [List.getElem?_map, List.getElem?_map, hd'] at hb
    cases hb
    refine Ce.call1 (by intro _; exact rfl) (by intro _ _; exact rfl) ?_
    refine Ce.global (by k_is) (.raw _) rfl (by intro _ _ _; rfl) (by decide) ?_
    refine IsFn.intro (KeepOk.ofRef (by k_is)) ?_
    refine Ce.local (a := .ref r) (if_pos rfl) rfl (by intro _ _ _; rfl) (by decide) ?_
    refine shown_spec er (l2 _ (List.mem_of_getElem? hd')) ⟨rfl, rfl⟩
  · refine ⟨D, _, rfl, AH.set_self _ _ _, by simp; omega, ?_⟩
    repeat' tb_start
    refine ⟨AH.set_self _ _ _, ?_⟩
    intro b hb
    have e : upto ((outs.map shownP).map AV.str).length (-1) = ((outs.map shownP).map AV.str).length - 1 := by unfold upto; rw [if_pos (by decide)]; omega
    have := h outs hr b _ (AH.set_self _ _ _) ((ex.new hD).new hb)
    rw [e, ← List.dropLast_eq_take]
    rw [List.map_dropLast] at this
    exact this
end

theorem mulOk_l {a b : Int} (h : 0 ≤ a) (h' : a < 2 ^ 62) : IntMulOk a b := by
  refine IntMulOk.of_left ?_
  unfold Builtin.Int.intBits
  split
  · omega
  · rename_i hz
    have h0 : a.natAbs ≠ 0 := by intro z; apply hz; simp; omega
    have : a.natAbs.log2 < 62 := (Nat.log2_lt h0).mpr (by omega)
    omega
theorem mulOk_r {a b : Int} (h : 0 ≤ b) (h' : b < 2 ^ 62) : IntMulOk a b := by
  refine IntMulOk.of_right ?_
  unfold Builtin.Int.intBits
  split
  · omega
  · rename_i hz
    have h0 : b.natAbs ≠ 0 := by intro z; apply hz; simp; omega
    have : b.natAbs.log2 < 62 := (Nat.log2_lt h0).mpr (by omega)
    omega
theorem fm_pos {a b : Int} (h : 0 < b) : 0 ≤ a.fmod b ∧ a.fmod b < b := ⟨Int.fmod_nonneg_of_pos a h, Int.fmod_lt_of_pos a h⟩

section
variable {w : World} {n : Nat} {ah : AH} {X : AH → Prop} {Q : AV → AH → Prop} {S : Addr} {A B : Int}
theorem take_law_spec {top : Int} (e : ah S = some (.list [.int A, .int B])) (hA : 0 ≤ A) (hB : 0 ≤ B) (hB2 : B ≤ 2 ^ 32) (ht : 1 ≤ top) (hdv : ∀ x, Builtin.divisionGoesByPylong x top = false)
    (h : ∀ t A' B', 0 ≤ t → t < top → 0 ≤ A' → 0 ≤ B' → B' ≤ 2 ^ 32 → Q (.int t) (ah.set S (.list [.int A', .int B']))) : Fn w (n + 1) (.ref 423) [.ref S, .int top] ah Q X := by
  refine Fn.def (lb := [("source", .ref S), ("top", .int top)]) (by k_is) (by k_is) (b2 fun _ _ => rfl) (locs_of rfl) rfl rfl rfl (by decide) ?_
  have ff : ¬ ((false : Bool) = true) := by decide
  have ht0 : top ≠ 0 := by omega
  have hdv1 := hdv A
  repeat' tb_start
  by_cases hp : 0 < A
  · refine ite_t (by simpa using hp) ?_
    (repeat' tb_start)
    have := fm_pos (a := A) (b := top) (by omega)
    exact h _ _ _ this.1 this.2 (Int.fdiv_nonneg hA (by omega)) hB hB2
  · refine ite_f (by simpa using hp) ?_
    repeat' tb_start
    refine Bop.muli (mulOk_l hB (by omega)) ?_
    repeat' tb_start
    have f1 := fm_pos (a := B * 39373 + 7) (b := 2147483647) (by omega)
    refine Bop.muli (mulOk_l f1.1 (by omega)) ?_
    have hdv2 := hdv
    repeat' tb_start
    have f2 := fm_pos (a := ((((B * 39373 + 7).fmod 2147483647 * (B * 39373 + 7).fmod 2147483647).fmod 2147483629).fdiv 32)) (b := top) (by omega)
    exact h _ A _ f2.1 f2.2 hA f1.1 (by omega)
theorem law_pool_spec {ns : List Int} (e : ah S = some (.scr ns)) (hz : ns.length ≤ 2 ^ 62) (h : ∀ F A' B' ah', ah F = none → ah' F = some (.list [.int A', .int B']) → 0 ≤ A' → 0 ≤ B' → B' ≤ 2 ^ 32 → Ext ah ah' → Q (.ref F) ah') : Fn w (n + 1) (.ref 416) [.ref S] ah Q X := by
  refine Fn.def (lb := [("script", .ref S)]) (by k_is) (by k_is) (b1 fun _ => rfl) (locs_of rfl) rfl rfl rfl (by decide) ?_
  have ff : ¬ ((false : Bool) = true) := by decide
  refine Ex.cons ?_
  refine Ex1.assignName (by intro _; exact rfl) rfl ?_
  refine Ev.mono (Q := fun v ah1 => (∃ i, v = .int i) ∧ ah1 = ah) ?_ ?_
  · repeat' tb_start
    by_cases h0 : 0 < ns.length
    · refine ite_t (by simpa using h0) ?_
      repeat' tb_start
      refine Sub.scr (x := ns[0]) e (by decide) (by decide) (by simp [List.getElem?_eq_getElem h0]) (by intro _ _; rfl) ⟨⟨_, rfl⟩, rfl⟩
    · refine ite_f (by simpa using h0) ?_
      refine Ev.int ?_
      exact ⟨⟨_, rfl⟩, rfl⟩
  rintro v ah1 ⟨⟨i, rfl⟩, rfl⟩
  refine Ex.cons ?_
  refine Tr.mono (Q := fun fl m1 ah2 => fl = .next ∧ m1 "script" = some (.ref S) ∧ (∃ j, 0 ≤ j ∧ m1 "big" = some (.int j)) ∧ ah2 = ah1) ?_ ?_ (fun _ x => x)
  · refine Ex1.if ?_
    repeat' tb_start
    by_cases hi : i < 0
    · refine ite_t (by simpa using hi) ?_
      (repeat' tb_start)
      exact ⟨rfl, ⟨0 - i, by omega, rfl⟩, rfl⟩
    · refine ite_f (by simpa using hi) ?_
      refine Ex.nil ?_
      exact ⟨rfl, rfl, ⟨i, by omega, rfl⟩, rfl⟩
  rintro fl m1 ah2 ⟨rfl, ms, ⟨j, hj, mb⟩, rfl⟩
  refine Ex.cons ?_
  (repeat' tb_start)
  refine Ex1.forRange (by intro _ _; rfl) (by intro _ _; rfl) (by intro _; rfl) (by intro _ _; rfl) (by k_is) rfl ?_
  repeat' tb_start
  have f0 := fm_pos (a := j) (b := 2147483629) (by decide)
  refine ⟨min ns.length 20, by congr 1; split <;> omega, by omega, fun _ m ah => ah = ah2 ∧ m "script" = some (.ref S) ∧ m "big" = some (.int j) ∧ ∃ B, m "mixed" = some (.int B) ∧ 0 ≤ B ∧ B ≤ 2 ^ 32, ⟨rfl, ms, mb, _, rfl, by omega, by omega⟩, ?_, ?_⟩
  · rintro k m2 ah3 hk ⟨rfl, ms2, mb2, B, mm2, hB, hB2⟩
    have hkl : k < ns.length := by omega
    refine As.name rfl ?_
    repeat' tb_start
    refine Bop.muli (y := 48271) (mulOk_r (by decide) (by decide)) ?_
    repeat' tb_start
    refine Sub.scr (x := ns[k]) e (by omega) (by omega) (by simp [List.getElem?_eq_getElem hkl]) (by intro _ _; rfl) ?_
    repeat' tb_start
    have f1 := fm_pos (a := (B * 48271 + ns[k].fmod 2147483647 + 31 * (k : Int))) (b := 2147483647) (by decide)
    exact ⟨ms2, mb2, _, rfl, f1.1, by omega⟩
  · rintro m2 ah3 ⟨rfl, ms2, mb2, B, mm2, hB, hB2⟩
    repeat' tb_start
    refine Bop.powi (by decide) (by decide) ?_
    repeat' tb_start
    have key : ∀ A', 0 ≤ A' → ∀ b, ah3 b = none → Q (.ref b) (ah3.set b (.list [.int A', .int B])) := fun A' hA b hb => h b A' B _ hb (AH.set_self _ _ _) hA hB hB2 (Ext.refl.new hb)
    cases hc : decide ((10 : Int) ^ (18 : Int).toNat ≤ j) with
    | true =>
      refine ite_t rfl ?_
      (repeat' tb_start)
      exact key j hj
    | false =>
      refine ite_f ff ?_
      (repeat' tb_start)
      exact key 0 (by decide)
end

noncomputable def SrcAt (ah : AH) (S : Addr) : Prop := ∃ A B, ah S = some (.list [.int A, .int B]) ∧ 0 ≤ A ∧ 0 ≤ B ∧ B ≤ 2 ^ 32
inductive LnsAt (ah : AH) (S : Addr) : List Addr → List Addr → List (Int × List Str) → Prop
  | nil : LnsAt ah S [] [] []
  | cons {t wa : Addr} {c : Int} {ws : List Str} {ts was : List Addr} {lns : List (Int × List Str)} : ah t = some (.tup [.int c, .ref wa]) → ah wa = some (.list (ws.map AV.str)) → wa ≠ S → wa ∉ was → LnsAt ah S ts was lns → LnsAt ah S (t :: ts) (wa :: was) ((c, ws) :: lns)
theorem LnsAt.mono {ah ah' : AH} {S : Addr} {ts was : List Addr} {lns : List (Int × List Str)} (h : LnsAt ah S ts was lns) (k : ∀ b o, (b ∈ ts ∨ b ∈ was) → ah b = some o → ah' b = some o) : LnsAt ah' S ts was lns := by
  induction h with
  | nil => exact .nil
  | cons h1 h2 h3 h4 _ ih => exact .cons (k _ _ (.inl List.mem_cons_self) h1) (k _ _ (.inr List.mem_cons_self) h2) h3 h4 (ih fun b o hb => k b o (hb.imp (List.mem_cons_of_mem _) (List.mem_cons_of_mem _)))
theorem LnsAt.has {ah : AH} {S : Addr} {ts was : List Addr} {lns : List (Int × List Str)} (h : LnsAt ah S ts was lns) {b : Addr} (hb : b ∈ ts ∨ b ∈ was) : (∃ c wa, ah b = some (.tup [.int c, .ref wa])) ∨ (b ≠ S ∧ ∃ ws : List Str, ah b = some (.list (ws.map AV.str))) := by
  induction h with
  | nil => rcases hb with hb | hb <;> cases hb
  | cons h1 h2 h3 h4 _ ih =>
    rcases hb with hb | hb
    · rcases List.mem_cons.mp hb with rfl | hb
      · exact .inl ⟨_, _, h1⟩
      · exact ih (.inl hb)
    · rcases List.mem_cons.mp hb with rfl | hb
      · exact .inr ⟨h3, _, h2⟩
      · exact ih (.inr hb)
theorem LnsAt.tup {ah : AH} {S : Addr} {ts was : List Addr} {lns : List (Int × List Str)} (h : LnsAt ah S ts was lns) {b : Addr} (hb : b ∈ ts) : ∃ c wa, ah b = Option.some (.tup [.int c, .ref wa]) := by
  induction h with
  | nil => cases hb
  | cons h1 h2 h3 h4 _ ih =>
    rcases List.mem_cons.mp hb with rfl | hb
    · exact ⟨_, _, h1⟩
    · exact ih hb
theorem LnsAt.neS {ah : AH} {S : Addr} {ts was : List Addr} {lns : List (Int × List Str)} {vs : List AV} (h : LnsAt ah S ts was lns) (eS : ah S = some (.list vs)) {b : Addr} (hb : b ∈ ts ∨ b ∈ was) : b ≠ S := by
  rcases h.has hb with ⟨c, wa, e⟩ | ⟨hn, _⟩
  · exact AH.ne_of2 e eS (by intro z; cases z)
  · exact hn
theorem LnsAt.neN {ah : AH} {S x : Addr} {ts was : List Addr} {lns : List (Int × List Str)} (h : LnsAt ah S ts was lns) (ex : ah x = none) {b : Addr} (hb : b ∈ ts ∨ b ∈ was) : b ≠ x := by
  rcases h.has hb with ⟨c, wa, e⟩ | ⟨_, _, e⟩ <;> exact AH.ne_of e ex
theorem LnsAt.snoc {ah : AH} {S t wa : Addr} {c : Int} {ws : List Str} {ts was : List Addr} {lns : List (Int × List Str)} (h : LnsAt ah S ts was lns) (e1 : ah t = Option.some (.tup [.int c, .ref wa])) (e2 : ah wa = Option.some (.list (ws.map AV.str))) (e3 : wa ≠ S) (e4 : wa ∉ was) : LnsAt ah S (ts ++ [t]) (was ++ [wa]) (lns ++ [(c, ws)]) := by
  induction h with
  | nil => exact .cons e1 e2 e3 (by simp) .nil
  | @cons t' wa' c' ws' ts' was' lns' h1 h2 h3 h4 h5 ih =>
    refine .cons h1 h2 h3 ?_ (ih fun z => e4 (List.mem_cons_of_mem _ z))
    intro z
    rcases List.mem_append.mp z with z | z
    · exact h4 z
    · rw [List.mem_singleton] at z
      exact e4 (z ▸ List.mem_cons_self)
theorem LnsAt.length {ah : AH} {S : Addr} {ts was : List Addr} {lns : List (Int × List Str)} (h : LnsAt ah S ts was lns) : ts.length = lns.length := by
  induction h with
  | nil => rfl
  | cons _ _ _ _ _ ih => simp [ih]

noncomputable def vocabL : List Str := ["x", "y", "let", "where", "do", "of", "{", "}", ";", "x", "do"]
noncomputable def vocab : List Str := "module" :: vocabL
noncomputable def GoodL (lns : List (Int × List Str)) : Prop := lns.length ≤ 7 ∧ ∀ x ∈ lns, 1 ≤ x.1 ∧ x.1 ≤ 9 ∧ 1 ≤ x.2.length ∧ x.2.length ≤ 3 ∧ ∀ w ∈ x.2, w ∈ vocab

section
variable {w : World} {n : Nat} {ah : AH} {X : AH → Prop} {Q : AV → AH → Prop} {S : Addr}
theorem take2_spec {top : Int} (e : SrcAt ah S) (ht : 1 ≤ top) (hdv : ∀ x, Builtin.divisionGoesByPylong x top = false)
    (h : ∀ (t : Nat) ah', (t : Int) < top → SrcAt ah' S → Keep S S ah ah' → (∀ x, ah x = none → x ≠ S → ah' x = none) → Q (.int t) ah') : Fn w (n + 1) (.ref 423) [.ref S, .int top] ah Q X := by
  obtain ⟨A, B, e, hA, hB, hB2⟩ := e
  refine take_law_spec e hA hB hB2 ht hdv fun t A' B' h1 h2 h3 h4 h5 => ?_
  obtain ⟨k, rfl⟩ := Int.eq_ofNat_of_zero_le h1
  exact h k _ h2 ⟨A', B', AH.set_self _ _ _, h3, h4, h5⟩ Keep.refl.setL fun x hx hn => (AH.set_ne _ _ hn).trans hx

structure NJ (ah : AH) (S : Addr) (i : Nat) (m : Loc) (ah' : AH) (Ls : Addr) (ts was : List Addr) (lns : List (Int × List Str)) : Prop where
  m1 : m "source" = some (.ref S)
  m2 : m "lines" = some (.ref Ls)
  eS : SrcAt ah' S
  eL : ah' Ls = some (.list (ts.map AV.ref))
  ln : LnsAt ah' S ts was lns
  nL : Ls ∉ was
  nS : Ls ≠ S
  fr : ah Ls = none
  fw : ∀ b ∈ was, ah b = none
  kp : Keep S S ah ah'
  le : lns.length = i
  gd : ∀ x ∈ lns, 1 ≤ x.1 ∧ x.1 ≤ 9 ∧ 1 ≤ x.2.length ∧ x.2.length ≤ 3 ∧ ∀ w ∈ x.2, w ∈ vocab

set_option maxHeartbeats 8000000 in
theorem lines_spec (e : SrcAt ah S) (h : ∀ Ls ts was lns ah', ah Ls = none → SrcAt ah' S → ah' Ls = some (.list (ts.map AV.ref)) → LnsAt ah' S ts was lns → Ls ∉ was → Ls ≠ S → GoodL lns → Keep S S ah ah' → Q (.ref Ls) ah') : Fn w (n + 2) (.ref 430) [.ref S] ah Q X := by
  refine Fn.def (lb := [("source", .ref S)]) (by k_is) (by k_is) (b1 fun _ => rfl) (locs_of rfl) rfl rfl rfl (by decide) ?_
  have ff : ¬ ((false : Bool) = true) := by decide
  repeat' tb_start
  intro Ls hLs
  have nS : Ls ≠ S := by obtain ⟨A, B, e, _⟩ := e; exact (AH.ne_of e hLs).symm
  (repeat' tb_start)
  refine Ex1.forRange (by intro _ _; rfl) (by intro _ _; rfl) (by intro _; rfl) (by intro _ _; rfl) (by k_is) rfl ?_
  have e1 : SrcAt (ah.set Ls (.list [])) S := by obtain ⟨A, B, e, r⟩ := e; exact ⟨A, B, by tb_rel, r⟩
  repeat' tb_start
  refine take2_spec e1 (by decide) (fun _ => rfl) ?_
  intro t ah1 ht e2 k1 f1
  refine ⟨t, rfl, by omega, fun i m ah' => ∃ ts was lns, NJ ah S i m ah' Ls ts was lns, ⟨[], [], [], rfl, rfl, e2, k1 _ _ nS nS (AH.set_self _ _ _), .nil, by simp, nS, hLs, by simp, (Keep.refl.new hLs).trans k1, rfl, by simp⟩, ?_, ?_⟩
  · clear f1 k1 e2 e1
    rintro i m ah1 hi ⟨ts, was, lns, ⟨m1, m2, eS, eL, ln, nL, nS, fr, fw, kp, le, gd⟩⟩
    refine As.name rfl ?_
    repeat' tb_start
    intro Wd hWd
    have nWS : Wd ≠ S := by obtain ⟨A, B, e, _⟩ := eS; exact (AH.ne_of e hWd).symm
    have nWL : Wd ≠ Ls := (AH.ne_of eL hWd).symm
    have eS1 : SrcAt (ah1.set Wd (.list [])) S := by obtain ⟨A, B, e, r⟩ := eS; exact ⟨A, B, by tb_rel, r⟩
    (repeat' tb_start)
    refine Ex1.forRange (by intro _ _; rfl) (by intro _ _; rfl) (by intro _; rfl) (by intro _ _; rfl) (by k_is) rfl ?_
    repeat' tb_start
    refine take2_spec eS1 (by decide) (fun _ => rfl) ?_
    intro t2 ah2 ht2 e2 k2 f2
    refine Bop.addi ?_
    refine ⟨1 + t2, by simp, by omega, fun j m' ah' => m' "source" = some (.ref S) ∧ m' "lines" = some (.ref Ls) ∧ m' "words" = some (.ref Wd) ∧ SrcAt ah' S ∧ Keep S Wd ah1 ah' ∧ ∃ ws : List Str, ah' Wd = some (.list (ws.map AV.str)) ∧ ws.length = j ∧ ∀ w ∈ ws, w ∈ vocab,
      ⟨m1, m2, rfl, e2, fun b o h1 h2 q => k2 b o h1 h1 ((AH.set_ne _ _ h2).trans q), [], k2 _ _ nWS nWS (AH.set_self _ _ _), rfl, by simp⟩, ?_, ?_⟩
    · clear e2 k2 f2 eS1
      rintro j m' ah2 hj ⟨p1, p2, p3, e2, k2, ws, eW, hl, hv⟩
      refine As.name rfl ?_
      repeat' tb_start
      intro b hb
      have nbS : S ≠ b := by obtain ⟨A, B, e, _⟩ := e2; exact AH.ne_of e hb
      have nbW : Wd ≠ b := AH.ne_of eW hb
      have e3 : SrcAt (ah2.set b (.list (vocabL.map AV.str))) S := by obtain ⟨A, B, e, r⟩ := e2; exact ⟨A, B, (AH.set_ne _ _ nbS).trans e, r⟩
      repeat' tb_start
      refine take2_spec e3 (by decide) (fun _ => rfl) ?_
      intro t3 ah3 ht3 e3' k3 f3
      have ht3' : t3 < vocabL.length := by have : vocabL.length = 11 := rfl; omega
      have eb : ah3 b = some (.list (vocabL.map AV.str)) := k3 _ _ nbS.symm nbS.symm (AH.set_self _ _ _)
      have eW3 : ah3 Wd = some (.list (ws.map AV.str)) := k3 _ _ nWS nWS ((AH.set_ne _ _ nbW).trans eW)
      refine Sub.list (vs := vocabL.map AV.str) (x := .str vocabL[t3]) eb (by omega) (by omega) (by simp [ht3']) (by intro _ _; rfl) ?_
      refine Evs.nil ?_
      refine Fn.append eW3 (by simp; omega) ?_
      refine Ex.nil ?_
      refine ⟨p1, p2, p3, ?_, ?_, ws ++ [vocabL[t3]], by rw [AH.set_self, List.map_append]; rfl, by simp [hl], ?_⟩
      · obtain ⟨A, B, e, r⟩ := e3'
        exact ⟨A, B, (AH.set_ne _ _ nWS.symm).trans e, r⟩
      · intro c o h1 h2 q
        have q2 := k2 c o h1 h2 q
        exact (AH.set_ne _ _ h2).trans (k3 _ _ h1 h1 ((AH.set_ne _ _ (AH.ne_of q2 hb)).trans q2))
      · intro x hx
        rcases List.mem_append.mp hx with hx | hx
        · exact hv x hx
        · rw [List.mem_singleton.mp hx]; exact List.mem_cons_of_mem _ (List.getElem_mem ht3')
    · clear e2 k2 f2 eS1
      rintro m' ah2 ⟨p1, p2, p3, e2, k2, ws, eW, hl, hv⟩
      have eL2 : ah2 Ls = some (.list (ts.map AV.ref)) := k2 _ _ nS nWL.symm eL
      repeat' tb_start
      refine take2_spec e2 (by decide) (fun _ => rfl) ?_
      intro t3 ah3 ht3 e3 k3 f3
      repeat' tb_start
      intro tt htt
      have eW3 : ah3 Wd = some (.list (ws.map AV.str)) := k3 _ _ nWS nWS eW
      have eL3 : ah3 Ls = some (.list (ts.map AV.ref)) := k3 _ _ nS nS eL2
      have nLt : Ls ≠ tt := AH.ne_of eL3 htt
      have nWt : Wd ≠ tt := AH.ne_of eW3 htt
      have nSt : S ≠ tt := by obtain ⟨A, B, e, _⟩ := e3; exact AH.ne_of e htt
      have htl := ln.length
      refine Evs.nil ?_
      refine Fn.append ((AH.set_ne _ _ nLt).trans eL3) (by simp; omega) ?_
      have l3 : LnsAt ah3 S ts was lns := ln.mono fun b o hb q => by
        have h1 : b ≠ S := by obtain ⟨A, B, e, _⟩ := eS; exact ln.neS e hb
        exact k3 _ _ h1 h1 (k2 _ _ h1 (ln.neN hWd hb) q)
      have nbL : ∀ b, (b ∈ ts ∨ b ∈ was) → b ≠ Ls := fun b hb => by
        rcases hb with hb | hb
        · obtain ⟨c, wa, e⟩ := ln.tup hb
          exact AH.ne_of2 e eL (by intro z; cases z)
        · rintro rfl; exact nL hb
      have l4 : LnsAt ((ah3.set tt (.tup [.int (1 + (t3 : Int)), .ref Wd])).set Ls (.list (ts.map AV.ref ++ [.ref tt]))) S ts was lns := l3.mono fun b o hb q => (AH.set_ne _ _ (nbL b hb)).trans ((AH.set_ne _ _ (l3.neN htt hb)).trans q)
      refine Ex.nil ?_
      refine ⟨ts ++ [tt], was ++ [Wd], lns ++ [(1 + (t3 : Int), ws)], p1, p2, ?_, by rw [AH.set_self, List.map_append]; rfl, ?_, ?_, nS, fr, ?_, ?_, by simp [le], ?_⟩
      · obtain ⟨A, B, e, r⟩ := e3
        exact ⟨A, B, (AH.set_ne _ _ nS.symm).trans ((AH.set_ne _ _ nSt).trans e), r⟩
      · exact l4.snoc ((AH.set_ne _ _ nLt.symm).trans (AH.set_self _ _ _)) ((AH.set_ne _ _ nWL).trans ((AH.set_ne _ _ nWt).trans eW3)) nWS fun z => ln.neN hWd (.inr z) rfl
      · intro z
        rcases List.mem_append.mp z with z | z
        · exact nL z
        · exact nWL (List.mem_singleton.mp z).symm
      · intro b hb
        rcases List.mem_append.mp hb with hb | hb
        · exact fw b hb
        · rw [List.mem_singleton.mp hb]
          cases q : ah Wd with
          | none => rfl
          | some o => have := kp _ _ nWS nWS q; rw [hWd] at this; cases this
      · intro b o h1 _ q
        have q1 := kp b o h1 h1 q
        have q3 := k3 b o h1 h1 (k2 b o h1 (AH.ne_of q1 hWd) q1)
        exact (AH.set_ne _ _ (AH.ne_of q fr)).trans ((AH.set_ne _ _ (AH.ne_of q3 htt)).trans q3)
      · intro x hx
        rcases List.mem_append.mp hx with hx | hx
        · exact gd x hx
        · rw [List.mem_singleton.mp hx]
          exact ⟨by show 1 ≤ 1 + (t3 : Int); omega, by show 1 + (t3 : Int) ≤ 9; omega, by show 1 ≤ ws.length; omega, by show ws.length ≤ 3; omega, hv⟩
  · rintro m ah1 ⟨ts, was, lns, ⟨m1, m2, eS, eL, ln, nL, nS, fr, fw, kp, le, gd⟩⟩
    have gl : ∀ ah2, Keep S S ah1 ah2 → LnsAt ah2 S ts was lns ∧ ah2 Ls = some (.list (ts.map AV.ref)) ∧ Keep S S ah ah2 := fun ah2 k => ⟨ln.mono fun b o hb q => by
      have h1 : b ≠ S := by obtain ⟨A, B, e, _⟩ := eS; exact ln.neS e hb
      exact k _ _ h1 h1 q, k _ _ nS nS eL, kp.trans k⟩
    have hlen : lns.length ≤ 7 := by omega
    refine Ex.cons ?_
    refine Ex1.if ?_
    refine Ts.mono (Q := fun v ah2 => (v = true → lns ≠ []) ∧ SrcAt ah2 S ∧ Keep S S ah1 ah2) ?_ ?_
    · repeat' tb_start
      intro b hb
      have nb : S ≠ b := by obtain ⟨A, B, e, _⟩ := eS; exact AH.ne_of e hb
      have e3 : SrcAt (ah1.set b (.list [])) S := by obtain ⟨A, B, e, r⟩ := eS; exact ⟨A, B, (AH.set_ne _ _ nb).trans e, r⟩
      have nLb : Ls ≠ b := AH.ne_of eL hb
      repeat' tb_start
      cases hl0 : lns with
      | nil =>
        subst hl0
        cases ln
        exact ite_f ff ⟨(by intro z; cases z), e3, Keep.refl.new hb⟩
      | cons x r =>
        have : (List.map AV.ref ts).isEmpty = false := by
          have := ln.length
          rw [hl0] at this
          cases ts with
          | nil => cases this
          | cons _ _ => rfl
        refine ite_t (by rw [this]; rfl) ?_
        repeat' tb_start
        refine take2_spec e3 (by decide) (fun _ => rfl) ?_
        intro t3 ah3 ht3 e4 k3 f3
        repeat' tb_start
        cases ((t3 : Int) == 0) with
        | true => exact ite_t rfl (Ts.andNil ⟨fun _ => (by simp), e4, (Keep.refl.new hb).trans k3⟩)
        | false => exact ite_f ff ⟨(by intro z; cases z), e4, (Keep.refl.new hb).trans k3⟩
    · rintro v ah2 ⟨hv, e2, k2⟩
      obtain ⟨l2, eL2, kp2⟩ := gl ah2 k2
      cases v with
      | false =>
        refine ite_f ff ?_
        (repeat' tb_start)
        exact h Ls ts was lns ah2 fr e2 eL2 l2 nL nS ⟨hlen, gd⟩ kp2
      | true =>
        refine ite_t rfl ?_
        refine Ex.cons ?_
        refine Ex1.assignSub (by intro _; exact rfl) ?_
        refine Ev.subscript ?_
        repeat' tb_start
        intro b hb
        have nb : S ≠ b := by obtain ⟨A, B, e, _⟩ := e2; exact AH.ne_of e hb
        have nLb : Ls ≠ b := AH.ne_of eL2 hb
        have e3 : SrcAt (ah2.set b (.list [.str "module", .str "{"])) S := by obtain ⟨A, B, e, r⟩ := e2; exact ⟨A, B, (AH.set_ne _ _ nb).trans e, r⟩
        repeat' tb_start
        refine take2_spec e3 (by decide) (fun _ => rfl) ?_
        intro t3 ah3 ht3 e4 k3 f3
        have eb : ah3 b = some (.list ((["module", "{"] : List Str).map AV.str)) := k3 _ _ nb.symm nb.symm (AH.set_self _ _ _)
        have hnew : t3 < (["module", "{"] : List Str).length := by show t3 < 2; omega
        have hmem : (["module", "{"] : List Str)[t3] ∈ vocab := by
          have : ∀ x ∈ (["module", "{"] : List Str), x ∈ vocab := by decide
          exact this _ (List.getElem_mem hnew)
        refine Sub.list (vs := (["module", "{"] : List Str).map AV.str) (x := .str ((["module", "{"] : List Str)[t3])) eb (by omega) (by omega) (by rw [Int.toNat_natCast, List.getElem?_map, List.getElem?_eq_getElem hnew]; rfl) (by intro _ _; rfl) ?_
        generalize (["module", "{"] : List Str)[t3] = nw at hmem
        have k23 : Keep S S ah1 ah3 := k2.trans ((Keep.refl.new hb).trans k3)
        obtain ⟨l3, eL3, kp3⟩ := gl ah3 k23
        cases hl0 : lns with
        | nil => exact absurd hl0 (hv rfl)
        | cons x r =>
          rw [hl0] at l3 gd hlen
          obtain ⟨c, ws⟩ := x
          cases l3 with
          | @cons t wa _ _ ts' was' _ h1 h2 h3 h4 h5 =>
            have gd0 := gd _ List.mem_cons_self
            have hw1 : 1 ≤ ws.length := gd0.2.2.1
            have nWL : wa ≠ Ls := fun z => nL (z ▸ List.mem_cons_self)
            repeat' tb_start
            have ews : ((ws.map AV.str).set (Int.toNat 0) (.str nw)) = (ws.set 0 nw).map AV.str := by rw [List.map_set]; rfl
            rw [ews]
            have keepW : ∀ b' o, b' ≠ wa → ah3 b' = some o → (ah3.set wa (.list ((ws.set 0 nw).map AV.str))) b' = some o := fun b' o hn q => (AH.set_ne _ _ hn).trans q
            refine h Ls (t :: ts') (wa :: was') ((c, ws.set 0 nw) :: r) _ fr ?_ (keepW _ _ nWL.symm eL3) (.cons (keepW _ _ (AH.ne_of2 h1 h2 (by intro z; cases z)) h1) (AH.set_self _ _ _) h3 h4 (h5.mono fun b' o hb' q => keepW _ _ ?_ q)) nL nS ⟨by simpa using hlen, ?_⟩ ?_
            · obtain ⟨A, B, e, rr⟩ := e4
              exact ⟨A, B, keepW _ _ h3.symm e, rr⟩
            · rcases hb' with hb' | hb'
              · obtain ⟨c', wa', e'⟩ := h5.tup hb'
                exact AH.ne_of2 e' h2 (by intro z; cases z)
              · rintro rfl; exact h4 hb'
            · intro y hy
              rcases List.mem_cons.mp hy with rfl | hy
              · refine ⟨gd0.1, gd0.2.1, by simpa using gd0.2.2.1, by simpa using gd0.2.2.2.1, fun z hz => ?_⟩
                rcases List.mem_or_eq_of_mem_set hz with hz | rfl
                · exact gd0.2.2.2.2 z hz
                · exact hmem
              · exact gd y (List.mem_cons_of_mem _ hy)
            · intro b' o q1 q2 q
              refine keepW _ _ ?_ (kp3 _ _ q1 q2 q)
              exact AH.ne_of q (fw wa List.mem_cons_self)
end

inductive At {α : Type} (f : α → AO) (ah : AH) : List Addr → List α → Prop
  | nil : At f ah [] []
  | cons {r : Addr} {d : α} {rs : List Addr} {ds : List α} : ah r = some (f d) → At f ah rs ds → At f ah (r :: rs) (d :: ds)
section
variable {α : Type} {f : α → AO} {ah ah' : AH} {rs : List Addr} {ds : List α}
theorem At.mono (h : At f ah rs ds) (k : ∀ r d, ah r = some (f d) → ah' r = some (f d)) : At f ah' rs ds := by
  induction h with
  | nil => exact .nil
  | cons h1 _ ih => exact .cons (k _ _ h1) ih
theorem At.ext (h : At f ah rs ds) (k : Ext ah ah') : At f ah' rs ds := h.mono fun _ _ e => k _ _ e
theorem At.snoc {r : Addr} {d : α} (h : At f ah rs ds) (e : ah r = some (f d)) : At f ah (rs ++ [r]) (ds ++ [d]) := by
  induction h with
  | nil => exact .cons e .nil
  | cons h1 _ ih => exact .cons h1 ih
theorem At.append {rs' : List Addr} {ds' : List α} (h : At f ah rs ds) (k : At f ah rs' ds') : At f ah (rs ++ rs') (ds ++ ds') := by
  induction h with
  | nil => exact k
  | cons h1 _ ih => exact .cons h1 ih
theorem At.length (h : At f ah rs ds) : rs.length = ds.length := by
  induction h with
  | nil => rfl
  | cons _ _ ih => simp [ih]
theorem At.get (h : At f ah rs ds) : ∀ {i : Nat} {r : Addr}, rs[i]? = some r → ∃ d, ds[i]? = some d ∧ ah r = some (f d) := by
  induction h with
  | nil => intro i d e; simp at e
  | cons h1 _ ih =>
    intro i d e
    cases i with
    | zero => simp only [List.getElem?_cons_zero, Option.some.injEq] at e; subst e; exact ⟨_, rfl, h1⟩
    | succ i => simp only [List.getElem?_cons_succ] at e ⊢; exact ih e
end
theorem tup_set {ah : AH} {F : Addr} {vs : List AV} {o : AO} {α : Type} {f : α → List AV} (e : ah F = some (.list vs)) : ∀ r d, ah r = some (.tup (f d)) → (ah.set F o) r = some (.tup (f d)) := fun r d h =>
  (AH.set_ne _ _ (AH.ne_of2 h e (by intro z; cases z))).trans h

noncomputable abbrev Row := Str × Int × Bool
noncomputable abbrev Mark := Str × Int
noncomputable abbrev rowO (r : Row) : AO := .tup [.str r.1, .int r.2.1, .bool r.2.2]
noncomputable abbrev markO (r : Mark) : AO := .tup [.str r.1, .int r.2]
noncomputable def rowsL : Int → List Str → Bool → List Row
  | _, [], _ => []
  | c, w :: ws, f => (w, c, f) :: rowsL (c + w.length + 1) ws false
noncomputable def rowsOf (lns : List (Int × List Str)) : List Row := lns.flatMap fun x => rowsL x.1 x.2 true
noncomputable def marksP : Bool → List Row → List Mark × Bool
  | o, [] => ([], o)
  | o, (t, c, f) :: r => let x := marksP (openers.any (· == t)) r
    ((if o && t != "{" then ([("{n}", c)] : List Mark) else if f then ([("<n>", c)] : List Mark) else []) ++ (t, c) :: x.1, x.2)
noncomputable def open0 (rows : List Row) : Bool := match rows with
  | [] => true
  | r :: _ => !(["module", "{"] : List Str).any (· == r.1)
noncomputable def marksOf (rows : List Row) : List Mark := (marksP (open0 rows) rows).1 ++ (if (marksP (open0 rows) rows).2 then ([("{n}", 0)] : List Mark) else [])
noncomputable def wsum (ws : List Str) : Int := (ws.map fun w => (w.length : Int) + 1).sum
theorem rowsL_get : ∀ (ws : List Str) (c : Int) (f : Bool) (i : Nat) (w : Str), ws[i]? = some w → (rowsL c ws f)[i]? = some (w, c + wsum (ws.take i), if i = 0 then f else false)
  | [], _, _, _, _, e => by simp at e
  | x :: ws, c, f, 0, w, e => by
    simp only [List.getElem?_cons_zero, Option.some.injEq] at e
    subst e
    simp [rowsL, wsum]
  | x :: ws, c, f, i + 1, w, e => by
    simp only [List.getElem?_cons_succ] at e
    rw [rowsL, List.getElem?_cons_succ, rowsL_get ws _ false i w e]
    simp only [wsum, List.take_succ_cons, List.map_cons, List.sum_cons]
    have : (if i = 0 then false else false) = false := by split <;> rfl
    rw [this, if_neg (by omega)]
    congr 3
    omega
theorem rowsL_length : ∀ (ws : List Str) (c : Int) (f : Bool), (rowsL c ws f).length = ws.length
  | [], _, _ => rfl
  | _ :: ws, _, _ => by simp [rowsL, rowsL_length ws]

section
variable {w : World} {n : Nat} {ah : AH} {X : AH → Prop} {Q : AV → AH → Prop} {S Ls : Addr} {ts was : List Addr} {lns : List (Int × List Str)}
theorem LnsAt.get {ah : AH} (h : LnsAt ah S ts was lns) : ∀ {i : Nat} {t : Addr}, ts[i]? = some t → ∃ c ws wa, lns[i]? = some (c, ws) ∧ ah t = some (.tup [.int c, .ref wa]) ∧ ah wa = some (.list (ws.map AV.str)) := by
  induction h with
  | nil => intro i d e; simp at e
  | cons h1 h2 h3 h4 _ ih =>
    intro i d e
    cases i with
    | zero => simp only [List.getElem?_cons_zero, Option.some.injEq] at e; subst e; exact ⟨_, _, _, rfl, h1, h2⟩
    | succ i => simp only [List.getElem?_cons_succ] at e ⊢; exact ih e
theorem vocab_len : ∀ x ∈ vocab, x.length ≤ 6 := by decide
theorem append_K {F : Addr} {ah0 ah1 : AH} {vs : List AV} (e : ah1 F = some (.list vs)) (nF : ah0 F = none) (k : Ext ah0 ah1) (vs' : List AV) : Ext ah0 (ah1.set F (.list vs')) := k.upd nF

structure RJ (ah : AH) (lns : List (Int × List Str)) (Ls : Addr) (m : Loc) (ah' : AH) (F : Addr) (rs : List Addr) (rows : List Row) : Prop where
  m1 : m "row" = some (.ref F)
  eF : ah' F = some (.list (rs.map AV.ref))
  nF : ah F = none
  at_ : At rowO ah' rs rows
  ex : Ext ah ah'
theorem rows_le {lns : List (Int × List Str)} (g : ∀ x ∈ lns, x.2.length ≤ 3) : (rowsOf lns).length ≤ 3 * lns.length := by
  induction lns with
  | nil => simp [rowsOf]
  | cons x r ih =>
    have h1 := g x List.mem_cons_self
    have h2 := ih fun y hy => g y (List.mem_cons_of_mem _ hy)
    unfold rowsOf at h2 ⊢
    rw [List.flatMap_cons, List.length_append, rowsL_length, List.length_cons]
    omega
theorem rowsOf_take {lns : List (Int × List Str)} {i : Nat} {x : Int × List Str} (e : lns[i]? = some x) : rowsOf (lns.take (i + 1)) = rowsOf (lns.take i) ++ rowsL x.1 x.2 true := by
  unfold rowsOf
  rw [List.take_add_one, e, List.flatMap_append]
  simp

noncomputable def preM (o : Bool) (r : Row) : List Mark := if o && r.1 != "{" then [("{n}", r.2.1)] else if r.2.2 then [("<n>", r.2.1)] else []
theorem marksP_snoc : ∀ (l : List Row) (o : Bool) (r : Row), marksP o (l ++ [r]) = ((marksP o l).1 ++ preM (marksP o l).2 r ++ [(r.1, r.2.1)], openers.any (· == r.1))
  | [], o, (t, c, f) => by simp [marksP, preM]
  | (t, c, f) :: l, o, r => by
    rw [List.cons_append, marksP, marksP_snoc l]
    simp [marksP]
theorem marksP_le : ∀ (l : List Row) (o : Bool), (marksP o l).1.length ≤ 2 * l.length
  | [], _ => by simp [marksP]
  | (t, c, f) :: l, o => by
    have := marksP_le l (openers.any (· == t))
    rw [marksP]
    simp only [List.length_append, List.length_cons]
    split
    · simp; omega
    · split <;> simp <;> omega

structure MJ (ah ah1 : AH) (F2 F : Addr) (rs : List Addr) (rows : List Row) (ms : List Addr) (l : List Mark) : Prop where
  e2 : ah1 F2 = some (.list (ms.map AV.ref))
  am : At markO ah1 ms l
  e1 : ah1 F = some (.list (rs.map AV.ref))
  ar : At rowO ah1 rs rows
  ex : Ext ah ah1
theorem MJ.app {ah ah1 : AH} {F2 F : Addr} {rs : List Addr} {rows : List Row} {ms : List Addr} {l : List Mark} {x : Mark} {tt : Addr} (J : MJ ah ah1 F2 F rs rows ms l) (nF2 : ah F2 = none) (nFF : F ≠ F2) (ht : ah1 tt = none) :
    MJ ah ((ah1.set tt (markO x)).set F2 (.list (ms.map AV.ref ++ [.ref tt]))) F2 F rs rows (ms ++ [tt]) (l ++ [x]) := by
  have n2 : F2 ≠ tt := AH.ne_of J.e2 ht
  have n1 : F ≠ tt := AH.ne_of J.e1 ht
  have e2 : (ah1.set tt (markO x)) F2 = some (.list (ms.map AV.ref)) := (AH.set_ne _ _ n2).trans J.e2
  refine ⟨by rw [AH.set_self, List.map_append]; rfl, ?_, (AH.set_ne _ _ nFF).trans ((AH.set_ne _ _ n1).trans J.e1), ?_, (J.ex.new ht).upd nF2⟩
  · exact ((J.am.ext (Ext.refl.new ht)).mono (tup_set (f := fun r : Mark => [.str r.1, .int r.2]) e2)).snoc ((AH.set_ne _ _ n2.symm).trans (AH.set_self _ _ _))
  · exact (J.ar.ext (Ext.refl.new ht)).mono (tup_set (f := fun r : Row => [.str r.1, .int r.2.1, .bool r.2.2]) e2)
set_option maxHeartbeats 8000000 in
theorem marked_spec (hLs : ah Ls = some (.list (ts.map AV.ref))) (ln : LnsAt ah S ts was lns) (g : GoodL lns)
    (h : ∀ F ms ah', ah F = none → ah' F = some (.list (ms.map AV.ref)) → At markO ah' ms (marksOf (rowsOf lns)) → Ext ah ah' → Q (.ref F) ah') : Fn w (n + 2) (.ref 440) [.ref Ls] ah Q X := by
  refine Fn.def (lb := [("lines", .ref Ls)]) (by k_is) (by k_is) (b1 fun _ => rfl) (locs_of rfl) rfl rfl rfl (by decide) ?_
  have ff : ¬ ((false : Bool) = true) := by decide
  have hlen := ln.length
  repeat' tb_start
  intro F hF
  have nLF : Ls ≠ F := AH.ne_of hLs hF
  (repeat' tb_start)
  refine Ex1.forList (by intro _ _; rfl) ?_
  refine Ev.local rfl rfl (by decide) ?_
  refine ⟨Ls, ts.map AV.ref, rfl, (AH.set_ne _ _ nLF).trans hLs, .inr ⟨_, _, _, rfl, fun x hx => by obtain ⟨a, _, rfl⟩ := List.mem_map.mp hx; exact ⟨a, rfl⟩⟩,
    fun i m ah' => ∃ rs, RJ ah lns Ls m ah' F rs (rowsOf (lns.take i)), ⟨[], ⟨rfl, AH.set_self _ _ _, hF, by simpa [rowsOf] using At.nil, Ext.refl.new hF⟩⟩, fun i m ah' ⟨rs, J⟩ => J.ex _ _ hLs, ?_, ?_⟩
  · rintro i m1 ah1 x hi ⟨rs, ⟨m1', eF, nF, at_, ex⟩⟩ hx
    rw [List.getElem?_map, Option.map_eq_some_iff] at hx
    obtain ⟨t, ht, rfl⟩ := hx
    obtain ⟨c, ws, wa, e1, e2, e3⟩ := ln.get ht
    have gx := g.2 _ (List.mem_of_getElem? e1)
    have e2' := ex _ _ e2
    have e3' := ex _ _ e3
    have nwF : wa ≠ F := AH.ne_of e3 nF
    repeat' tb_start
    refine Ex1.forRange (by intro _ _; rfl) (by intro _ _; rfl) (by intro _; rfl) (by intro _ _; rfl) (by k_is) rfl ?_
    repeat' tb_start
    have hw3 : ws.length ≤ 3 := gx.2.2.2.1
    refine Fn.lenList e3' (by simp; omega) ?_
    refine ⟨ws.length, by simp, by omega, fun j m' ah' => m' "column" = some (.int c) ∧ m' "words" = some (.ref wa) ∧ ∃ rs, RJ ah lns Ls m' ah' F rs (rowsOf (lns.take i) ++ (rowsL c ws true).take j),
      ⟨rfl, rfl, rs, ⟨m1', eF, nF, by simpa using at_, ex⟩⟩, ?_, ?_⟩
    · clear eF at_ ex e2' e3' m1'
      clear rs m1 ah1
      rintro j m1 ah1 hj ⟨mc, mw, rs, ⟨mr, eF, nF, at_, ex⟩⟩
      have e3' := ex _ _ e3
      have hw : ws[j]? = some ws[j] := List.getElem?_eq_getElem hj
      refine As.name rfl ?_
      repeat' tb_start
      refine Sub.list (x := .str ws[j]) e3' (by omega) (by omega) (by rw [Int.toNat_natCast, List.getElem?_map, hw]; rfl) (by intro _ _; rfl) ?_
      refine Evs.cons (by intro _ _; exact rfl) ?_
      refine Ev.binop ?_
      refine Ev.local mc rfl (by decide) ?_
      refine Ev.call (by intro _; exact rfl) (by intro _ _; exact rfl) (by intro _ _; exact rfl) ?_
      refine Ev.builtin (by k_is) (by boot_by_name) (by decide) rfl (by decide) ?_
      refine IsFn.intro KeepOk.ofBuiltin ?_
      refine Evs.cons (by intro _ _; exact rfl) ?_
      refine Ev.comp (by decide) (by decide) rfl (by decide) (by intro _ _; rfl) ?_
      refine Ev.sliceList0 ?_
      refine Ev.local mw rfl (by decide) ?_
      refine ⟨wa, ws.map AV.str, rfl, e3', by simp; omega, ?_⟩
      refine Ev.local rfl rfl (by decide) ?_
      refine ⟨(j : Int), rfl, e3', fun b hb => ?_⟩
      have hu : upto (ws.map AV.str).length (j : Int) = j := by unfold upto; rw [if_neg (by omega)]; omega
      rw [hu, ← List.map_take]
      have hvl : ∀ x ∈ ws, x.length ≤ 6 := fun x hx => vocab_len x (gx.2.2.2.2 x hx)
      refine ⟨b, (ws.take j).map AV.str, ((ws.take j).map fun w => (w.length : Int) + 1).map AV.int, rfl, AH.set_self _ _ _, by simp; omega, by simp, .inl (by intro _ _; rfl), ⟨fun a => fun z => if z = "word" then some a else none, fun i x hx => Tgt.name rfl rfl, fun i a b' ha hb' => ?_⟩, fun D hD => ?_⟩
      · rw [List.getElem?_map, Option.map_eq_some_iff] at ha
        obtain ⟨x, hx, rfl⟩ := ha
        rw [List.getElem?_map, List.getElem?_map, hx] at hb'
        cases hb'
        have hxl := hvl x (List.mem_of_mem_take (List.mem_of_getElem? hx))
        refine Ce.binop ?_
        refine Ce.call1 (by intro _; exact rfl) (by intro _ _; exact rfl) ?_
        refine Ce.builtin (by k_is) (by boot_by_name) (by decide) rfl (by intro _ _ _; rfl) (by decide) ?_
        refine IsFn.intro KeepOk.ofBuiltin ?_
        refine Ce.local (a := .str x) (if_pos rfl) rfl (by intro _ _ _; rfl) (by decide) ?_
        refine Fn.lenStr (by omega) ?_
        refine Ce.int ?_
        intro m
        exact Bop.addi ⟨rfl, rfl⟩
      · refine Evs.nil ?_
        refine Fn.sum (AH.set_self _ _ _) ?_
        refine Bop.addi ?_
        have nFb : F ≠ b := AH.ne_of eF hb
        have nFD : F ≠ D := (AH.ne_of ((AH.set_ne _ _ nFb).trans eF) hD)
        repeat' tb_start
        intro tt htt
        have nFt : F ≠ tt := AH.ne_of ((AH.set_ne _ _ nFD).trans ((AH.set_ne _ _ nFb).trans eF)) htt
        refine Evs.nil ?_
        have hrl := at_.length
        have hr3 : (rowsOf (lns.take i)).length ≤ 3 * 7 := by
          have h1 := rows_le (lns := lns.take i) fun x hx => (g.2 x (List.mem_of_mem_take hx)).2.2.2.1
          have h2 := g.1
          rw [List.length_take] at h1
          omega
        have hrl2 : rs.length ≤ 30 := by
          rw [hrl, List.length_append, List.length_take, rowsL_length]
          omega
        refine Fn.append ((AH.set_ne _ _ nFt).trans ((AH.set_ne _ _ nFD).trans ((AH.set_ne _ _ nFb).trans eF))) (by simp; omega) ?_
        refine Ex.nil ?_
        have ex3 := ((ex.new (o := .list ((ws.take j).map AV.str)) hb).new (o := .list (((ws.take j).map fun w => (w.length : Int) + 1).map AV.int)) hD).new (o := .tup [.str ws[j], .int (c + ((ws.take j).map fun w => (w.length : Int) + 1).sum), .bool ((j : Int) == 0)]) htt
        have a3 := ((at_.ext (Ext.refl.new (o := .list ((ws.take j).map AV.str)) hb)).ext (Ext.refl.new (o := .list (((ws.take j).map fun w => (w.length : Int) + 1).map AV.int)) hD)).ext (Ext.refl.new (o := .tup [.str ws[j], .int (c + ((ws.take j).map fun w => (w.length : Int) + 1).sum), .bool ((j : Int) == 0)]) htt)
        refine ⟨mc, mw, rs ++ [tt], ⟨mr, by rw [AH.set_self, List.map_append]; rfl, nF, ?_, ex3.upd nF⟩⟩
        have hrow := rowsL_get ws c true j _ hw
        rw [List.take_add_one, hrow, ← List.append_assoc]
        refine At.snoc (a3.mono (tup_set (f := fun r : Row => [.str r.1, .int r.2.1, .bool r.2.2]) ((AH.set_ne _ _ nFt).trans ((AH.set_ne _ _ nFD).trans ((AH.set_ne _ _ nFb).trans eF))))) ?_
        refine (AH.set_ne _ _ nFt.symm).trans ((AH.set_self _ _ _).trans ?_)
        show some (AO.tup _) = some (AO.tup _)
        unfold wsum
        have : ((j : Int) == 0) = if j = 0 then true else false := by
          by_cases h0 : j = 0
          · subst h0; rfl
          · rw [if_neg h0]; simp; omega
        rw [this]
    · rintro m1 ah1 ⟨mc, mw, rs, ⟨mr, eF, nF, at_, ex⟩⟩
      refine Ex.nil ?_
      refine ⟨rs, ⟨mr, eF, nF, ?_, ex⟩⟩
      rw [rowsOf_take e1]
      have htk : (rowsL c ws true).take ws.length = rowsL c ws true := List.take_of_length_le (by rw [rowsL_length]; exact Nat.le_refl _)
      rw [htk] at at_
      exact at_
  · rintro m1 ah1 ⟨rs, ⟨mr, eF, nF, at_, ex⟩⟩
    rw [List.take_of_length_le (by simp; omega)] at at_
    have hr3 : (rowsOf lns).length ≤ 3 * 7 := by
      have h1 := rows_le (lns := lns) fun x hx => (g.2 x hx).2.2.2.1
      have h2 := g.1
      omega
    have hrl := at_.length
    repeat' tb_start
    intro F2 hF2
    have nFF : F ≠ F2 := AH.ne_of eF hF2
    refine Ex.cons ?_
    refine Ex1.assignName (by intro _; exact rfl) rfl ?_
    refine Ev.mono (Q := fun v ah2 => v = .bool (open0 (rowsOf lns)) ∧ Ext (ah1.set F2 (.list [])) ah2) ?_ ?_
    · repeat' tb_start
      intro b hb
      have nFb : F ≠ b := AH.ne_of ((AH.set_ne _ _ nFF).trans eF) hb
      repeat' tb_start
      cases hrr : rowsOf lns with
      | nil =>
        rw [hrr] at at_
        cases at_
        exact ite_t rfl ⟨rfl, Ext.refl.new hb⟩
      | cons r0 rows =>
        rw [hrr] at at_
        cases at_ with
        | @cons q _ rs' _ hq hat =>
          refine ite_f ff ?_
          refine Ev.boolOne ?_
          have nqF2 : q ≠ F2 := AH.ne_of hq hF2
          have nqb : q ≠ b := AH.ne_of ((AH.set_ne _ _ nqF2).trans hq) hb
          repeat' tb_start
          intro b2 hb2
          repeat' tb_start
          refine Cop.notInTup (ys := ["module", "{"]) (AH.set_self _ _ _) ?_
          exact ⟨rfl, (Ext.refl.new hb).new hb2⟩
    · rintro v ah2 ⟨rfl, ex2⟩
      have nF2 : ah F2 = none := ex.none hF2
      have exA : Ext ah ah2 := (ex.new (o := .list []) hF2).trans ex2
      have eF2 : ah2 F2 = some (.list []) := ex2 _ _ (AH.set_self _ _ _)
      have eFb : ah2 F = some (.list (rs.map AV.ref)) := ex2 _ _ ((AH.set_ne _ _ nFF).trans eF)
      have atb : At rowO ah2 rs (rowsOf lns) := (at_.ext (Ext.refl.new hF2)).ext ex2
      refine Ex.cons ?_
      refine Ex1.forList (by intro _ _; rfl) ?_
      refine Ev.local mr rfl (by decide) ?_
      refine ⟨F, rs.map AV.ref, rfl, eFb, .inr ⟨_, _, _, rfl, fun x hx => by obtain ⟨a, _, rfl⟩ := List.mem_map.mp hx; exact ⟨a, rfl⟩⟩,
        fun i m ah' => m "found" = some (.ref F2) ∧ m "opens" = some (.bool (marksP (open0 (rowsOf lns)) ((rowsOf lns).take i)).2) ∧ ∃ ms, MJ ah ah' F2 F rs (rowsOf lns) ms (marksP (open0 (rowsOf lns)) ((rowsOf lns).take i)).1,
        ⟨rfl, rfl, [], ⟨eF2, by simpa [marksP] using At.nil, eFb, atb, exA⟩⟩, fun i m ah' ⟨_, _, _, J⟩ => J.e1, ?_, ?_⟩
      · clear eF2 eFb atb exA ex2
        rintro i m1 ah1 x hi ⟨mf, mo, ms, J⟩ hx
        rw [List.getElem?_map, Option.map_eq_some_iff] at hx
        obtain ⟨q, hq, rfl⟩ := hx
        obtain ⟨⟨t, c, f⟩, hr, eq⟩ := J.ar.get hq
        have hsn : (rowsOf lns).take (i + 1) = (rowsOf lns).take i ++ [(t, c, f)] := by rw [List.take_add_one, hr]; rfl
        have hml := J.am.length
        have hm2 := marksP_le ((rowsOf lns).take i) (open0 (rowsOf lns))
        rw [List.length_take] at hm2
        have hms : ms.length ≤ 42 := by omega
        refine As.tup (vs := [.str t, .int c, .bool f]) eq (by intro _; exact ⟨rfl, rfl⟩) ?_
        iterate 7 tb_start
        refine Ex.cons ?_
        refine Tr.mono (Q := fun fl m' ah' => fl = AF.next ∧ m' "found" = some (.ref F2) ∧ m' "text" = some (.str t) ∧ m' "column" = some (.int c) ∧ ∃ ms', MJ ah ah' F2 F rs (rowsOf lns) ms' ((marksP (open0 (rowsOf lns)) ((rowsOf lns).take i)).1 ++ preM (marksP (open0 (rowsOf lns)) ((rowsOf lns).take i)).2 (t, c, f)) ∧ ms'.length ≤ 43) ?_ ?_ (fun _ x => x)
        · revert mo
          generalize (marksP (open0 (rowsOf lns)) ((rowsOf lns).take i)).2 = o
          intro mo
          refine Ex1.if ?_
          refine Ts.still (P := fun v => v = (o && t != "{")) ?_ ?_
          · repeat' tb_start
            cases o with
            | true =>
              refine ite_t rfl ?_
              repeat' tb_start
              cases ht : (t != "{") with
              | true => exact ite_t rfl (Ts.andNil ⟨rfl, rfl⟩)
              | false => exact ite_f ff ⟨rfl, rfl⟩
            | false => exact ite_f ff ⟨rfl, rfl⟩
          · rintro v rfl
            have e2 := J.e2
            cases ho : (o && t != "{") with
            | true =>
              refine ite_t rfl ?_
              repeat' tb_start
              intro tt htt
              have n2 : F2 ≠ tt := AH.ne_of e2 htt
              refine Evs.nil ?_
              refine Fn.append ((AH.set_ne _ _ n2).trans e2) (by simp; omega) ?_
              refine Ex.nil ?_
              have := J.app (x := ("{n}", c)) nF2 nFF htt
              exact ⟨rfl, mf, rfl, rfl, ms ++ [tt], by unfold preM; rw [ho]; exact this, by simp; omega⟩
            | false =>
              refine ite_f ff ?_
              repeat' tb_start
              cases f with
              | true =>
                refine ite_t rfl ?_
                repeat' tb_start
                intro tt htt
                have n2 : F2 ≠ tt := AH.ne_of e2 htt
                refine Evs.nil ?_
                refine Fn.append ((AH.set_ne _ _ n2).trans e2) (by simp; omega) ?_
                refine Ex.nil ?_
                refine Ex.nil ?_
                have := J.app (x := ("<n>", c)) nF2 nFF htt
                exact ⟨rfl, mf, rfl, rfl, ms ++ [tt], by unfold preM; rw [ho]; exact this, by simp; omega⟩
              | false =>
                refine ite_f ff ?_
                refine Ex.nil ?_
                refine Ex.nil ?_
                exact ⟨rfl, mf, rfl, rfl, ms, by unfold preM; rw [ho]; simpa using J, by omega⟩
        · rintro fl m2 ah3 ⟨rfl, mf2, mt2, mc2, ms', J', hl'⟩
          have e2 := J'.e2
          show Ex _ _ _ _ _ _ _ _
          repeat' tb_start
          intro tt htt
          have n2 : F2 ≠ tt := AH.ne_of e2 htt
          refine Evs.nil ?_
          refine Fn.append ((AH.set_ne _ _ n2).trans e2) (by simp; omega) ?_
          have J2 := J'.app (x := (t, c)) nF2 nFF htt
          repeat' tb_start
          intro b hb
          (repeat' tb_start)
          refine Cop.inTup (ys := openers) (AH.set_self _ _ _) ?_
          (repeat' tb_start)
          refine ⟨mf2, ?_, ms' ++ [tt], ?_⟩
          · rw [hsn, marksP_snoc]; rfl
          · rw [hsn, marksP_snoc]
            exact ⟨(Ext.refl.new hb) _ _ J2.e2, J2.am.ext (Ext.refl.new hb), (Ext.refl.new hb) _ _ J2.e1, J2.ar.ext (Ext.refl.new hb), J2.ex.new hb⟩
      · rintro m1 ah1 ⟨mf, mo, ms, J⟩
        rw [List.take_of_length_le (by simp; omega)] at mo J
        have hml := J.am.length
        have hm2 := marksP_le (rowsOf lns) (open0 (rowsOf lns))
        have e2 := J.e2
        cases ho : (marksP (open0 (rowsOf lns)) (rowsOf lns)).2 with
        | true =>
          rw [ho] at mo
          repeat' tb_start
          refine ite_t rfl ?_
          repeat' tb_start
          intro tt htt
          repeat' tb_start
          intro b hb
          have n2 : F2 ≠ tt := AH.ne_of e2 htt
          have n3 : F2 ≠ b := AH.ne_of ((AH.set_ne _ _ n2).trans e2) hb
          refine Bop.addLists (vs := ms.map AV.ref) (ws := [.ref tt]) ((AH.set_ne _ _ n3).trans ((AH.set_ne _ _ n2).trans e2)) (AH.set_self _ _ _) (by simp; omega) (by simp) ?_
          intro d hd
          have nt : tt ≠ b := by rintro rfl; rw [AH.set_self] at hb; cases hb
          have nd : tt ≠ d := AH.ne_of ((AH.set_ne _ _ nt).trans (AH.set_self _ _ _)) hd
          have exd := ((J.ex.new (o := .tup [.str "{n}", .int 0]) htt).new (o := .list [.ref tt]) hb).new (o := .list (ms.map AV.ref ++ [.ref tt])) hd
          refine h d (ms ++ [tt]) _ (Ext.none (((J.ex.new (o := .tup [.str "{n}", .int 0]) htt).new (o := .list [.ref tt]) hb)) hd) (by rw [AH.set_self, List.map_append]; rfl) ?_ exd
          have am := ((J.am.ext (Ext.refl.new (o := .tup [.str "{n}", .int 0]) htt)).ext (Ext.refl.new (o := .list [.ref tt]) hb)).ext (Ext.refl.new (o := .list (ms.map AV.ref ++ [.ref tt])) hd)
          have := At.snoc (f := markO) (d := ("{n}", 0)) am ((AH.set_ne _ _ nd).trans ((AH.set_ne _ _ nt).trans (AH.set_self _ _ _)))
          unfold marksOf
          rw [ho]
          exact this
        | false =>
          rw [ho] at mo
          repeat' tb_start
          refine ite_f ff ?_
          repeat' tb_start
          intro b hb
          have n3 : F2 ≠ b := AH.ne_of e2 hb
          refine Bop.addLists (vs := ms.map AV.ref) (ws := []) ((AH.set_ne _ _ n3).trans e2) (AH.set_self _ _ _) (by simp; omega) (by simp) ?_
          intro d hd
          have exd := (J.ex.new (o := .list []) hb).new (o := .list (ms.map AV.ref ++ [])) hd
          refine h d ms _ (Ext.none (J.ex.new (o := .list []) hb) hd) (by rw [AH.set_self, List.append_nil]) ?_ exd
          unfold marksOf
          rw [ho, if_neg ff]
          have a4 := (J.am.ext (Ext.refl.new (o := .list []) hb)).ext (Ext.refl.new (o := .list (ms.map AV.ref ++ [])) hd)
          simp only [List.append_nil] at a4 ⊢
          exact a4
end

noncomputable def laidStep (x : Mark) (rest : List Mark) (p : List Int) : Option (List Str × List Mark × List Int) :=
  if x.1 == "<n>" then (if 0 < topP p ∧ x.2 < topP p then some (["v}"], x :: rest, p.dropLast) else some (if 0 < topP p ∧ x.2 = topP p then ["v;"] else [], rest, p))
  else if x.1 == "{n}" then (if topP p < x.2 then some (["v{"], rest, p ++ [x.2]) else some (["v{", "v}"], ("<n>", x.2) :: rest, p))
  else if x.1 == "{" then some (["{"], rest, p ++ [0])
  else if x.1 == "}" then (if p = [] ∨ topP p ≠ 0 then none else some (["}"], rest, p.dropLast))
  else some ([x.1], rest, p)
noncomputable def tailP (p : List Int) : Option (List Str) := if (0 : Int) ∈ p then none else some (List.replicate p.length "v}")
inductive Laid : Nat → List Mark → List Int → Option (List Str) → Prop
  | fin {p : List Int} : Laid 0 [] p (tailP p)
  | err {x : Mark} {rest : List Mark} {p : List Int} (h : laidStep x rest p = none) : Laid 0 (x :: rest) p none
  | step {k : Nat} {x : Mark} {rest l' : List Mark} {p p' : List Int} {o : List Str} {r : Option (List Str)} (h : laidStep x rest p = some (o, l', p')) (R : Laid k l' p' r) : Laid (k + 1) (x :: rest) p (r.map (o ++ ·))

section
variable {w : World} {n : Nat} {ah : AH} {X : AH → Prop} {Q : AV → AH → Prop}
structure GH (ah ah' : AH) (Lf P Fd : Addr) (rs : List Addr) (left : List Mark) (pile : List Int) (f : List Str) : Prop where
  eL : ah' Lf = some (.list (rs.map AV.ref))
  at_ : At markO ah' rs left
  eP : ah' P = some (.list (pile.map AV.int))
  eF : ah' Fd = some (.list (f.map AV.str))
  ex : Ext ah ah'
structure GN (ah : AH) (Lf P Fd : Addr) : Prop where
  nL : ah Lf = none
  nP : ah P = none
  nF : ah Fd = none
  LP : Lf ≠ P
  LF : Lf ≠ Fd
  PF : P ≠ Fd
section
variable {ah' : AH} {Lf P Fd : Addr} {rs : List Addr} {left : List Mark} {pile : List Int} {f : List Str}
theorem GH.new (J : GH ah ah' Lf P Fd rs left pile f) {x : Addr} {o : AO} (hx : ah' x = none) : GH ah (ah'.set x o) Lf P Fd rs left pile f :=
  let e := Ext.refl.new (o := o) hx
  ⟨e _ _ J.eL, J.at_.ext e, e _ _ J.eP, e _ _ J.eF, J.ex.trans e⟩
theorem GH.setF (J : GH ah ah' Lf P Fd rs left pile f) (N : GN ah Lf P Fd) (s : List Str) : GH ah (ah'.set Fd (.list ((f ++ s).map AV.str))) Lf P Fd rs left pile (f ++ s) :=
  ⟨(AH.set_ne _ _ N.LF).trans J.eL, J.at_.mono (tup_set (f := fun r : Mark => [.str r.1, .int r.2]) J.eF), (AH.set_ne _ _ N.PF).trans J.eP, AH.set_self _ _ _, J.ex.upd N.nF⟩
theorem GH.setP (J : GH ah ah' Lf P Fd rs left pile f) (N : GN ah Lf P Fd) (p' : List Int) : GH ah (ah'.set P (.list (p'.map AV.int))) Lf P Fd rs left p' f :=
  ⟨(AH.set_ne _ _ N.LP).trans J.eL, J.at_.mono (tup_set (f := fun r : Mark => [.str r.1, .int r.2]) J.eP), AH.set_self _ _ _, (AH.set_ne _ _ N.PF.symm).trans J.eF, J.ex.upd N.nP⟩
theorem GH.setF1 (J : GH ah ah' Lf P Fd rs left pile f) (N : GN ah Lf P Fd) (s : Str) : GH ah (ah'.set Fd (.list (f.map AV.str ++ [AV.str s]))) Lf P Fd rs left pile (f ++ [s]) := by
  have := J.setF N [s]
  rw [List.map_append] at this
  exact this
theorem GH.setP1 (J : GH ah ah' Lf P Fd rs left pile f) (N : GN ah Lf P Fd) (c : Int) : GH ah (ah'.set P (.list (pile.map AV.int ++ [AV.int c]))) Lf P Fd rs left (pile ++ [c]) f := by
  have := J.setP N (pile ++ [c])
  rw [List.map_append] at this
  exact this
theorem GH.setL (J : GH ah ah' Lf P Fd rs left pile f) (N : GN ah Lf P Fd) {rs' : List Addr} {l' : List Mark} (a : At markO ah' rs' l') : GH ah (ah'.set Lf (.list (rs'.map AV.ref))) Lf P Fd rs' l' pile f :=
  ⟨AH.set_self _ _ _, a.mono (tup_set (f := fun r : Mark => [.str r.1, .int r.2]) J.eL), (AH.set_ne _ _ N.LP.symm).trans J.eP, (AH.set_ne _ _ N.LF.symm).trans J.eF, J.ex.upd N.nL⟩
end
structure GM (m : Loc) (Lf P Fd : Addr) : Prop where
  mL : m "left" = some (.ref Lf)
  mP : m "pile" = some (.ref P)
  mF : m "found" = some (.ref Fd)

structure LI (ah : AH) (Lf P Fd : Addr) (res : Option (List Str)) (k : Nat) (m : Loc) (ah' : AH) (rs : List Addr) (left : List Mark) (pile : List Int) (f : List Str) (r : Option (List Str)) : Prop where
  M : GM m Lf P Fd
  G : GH ah ah' Lf P Fd rs left pile f
  R : Laid k left pile r
  e : res = r.map (f ++ ·)
  b1 : f.length + 2 * k ≤ 700
  b2 : left.length ≤ 100
  b3 : pile.length + k ≤ 300
theorem laidStep_facts {x : Mark} {rest l' : List Mark} {p p' : List Int} {o : List Str} (h : laidStep x rest p = some (o, l', p')) : o.length ≤ 2 ∧ l'.length ≤ rest.length + 1 ∧ p'.length ≤ p.length + 1 := by
  unfold laidStep at h
  split at h
  · split at h
    · cases h; exact ⟨by simp, by simp, by simp; omega⟩
    · cases h; exact ⟨by split <;> simp, by omega, by omega⟩
  · split at h
    · split at h <;> (cases h; exact ⟨by simp, by simp, by simp⟩)
    · split at h
      · cases h; exact ⟨by simp, by omega, by simp⟩
      · split at h
        · split at h
          · cases h
          · cases h; exact ⟨by simp, by omega, by simp; omega⟩
        · cases h; exact ⟨by simp, by omega, by omega⟩
theorem LI.next {ah ah' ah'' : AH} {Lf P Fd : Addr} {res : Option (List Str)} {k : Nat} {m m'' : Loc} {rs rs' : List Addr} {x : Mark} {rest l' : List Mark} {pile p' : List Int} {f o : List Str} {r : Option (List Str)} (J : LI ah Lf P Fd res k m ah' rs (x :: rest) pile f r)
    (hs : laidStep x rest pile = some (o, l', p')) (M : GM m'' Lf P Fd) (G : GH ah ah'' Lf P Fd rs' l' p' (f ++ o)) : ∃ j, j < k ∧ ∃ rs left pile f r, LI ah Lf P Fd res j m'' ah'' rs left pile f r := by
  obtain ⟨M0, G0, R, e, b1, b2, b3⟩ := J
  obtain ⟨f1, f2, f3⟩ := laidStep_facts hs
  cases R with
  | err h => rw [hs] at h; cases h
  | @step k' _ _ _ _ _ _ r' h R' =>
    rw [hs] at h; cases h
    refine ⟨k', by omega, rs', _, _, _, r', M, G, R', ?_, by rw [List.length_append]; omega, by simp at b2; omega, by omega⟩
    rw [e, Option.map_map]
    congr 1
    funext y
    simp
theorem LI.bad {ah ah' : AH} {Lf P Fd : Addr} {res : Option (List Str)} {k : Nat} {m : Loc} {rs : List Addr} {x : Mark} {rest : List Mark} {pile : List Int} {f : List Str} {r : Option (List Str)} (J : LI ah Lf P Fd res k m ah' rs (x :: rest) pile f r) (hs : laidStep x rest pile = none) : res = none := by
  obtain ⟨M0, G0, R, e, b1, b2, b3⟩ := J
  cases R with
  | err h => exact e
  | step h _ => rw [hs] at h; cases h
set_option maxHeartbeats 8000000 in
theorem laid_spec {F : Addr} {ms : List Addr} {marks : List Mark} {res : Option (List Str)} {k0 : Nat} (eF : ah F = some (.list (ms.map AV.ref))) (hat : At markO ah ms marks) (R : Laid k0 marks [] res) (hk : k0 ≤ 300) (hml : marks.length ≤ 100)
    (h : ∀ outs, res = some outs → ∀ D ah', ah D = none → ah' D = some (.list (outs.map AV.str)) → Ext ah ah' → Q (.ref D) ah') (hN : res = none → ∀ ah', Ext ah ah' → Q .none ah') : Fn w (n + 2) (.ref 447) [.ref F] ah Q X := by
  refine Fn.def (lb := [("marked", .ref F)]) (by k_is) (by k_is) (b1 fun _ => rfl) (locs_of rfl) rfl rfl rfl (by decide) ?_
  have ff : ¬ ((false : Bool) = true) := by decide
  have hmz := hat.length
  refine Ex.cons ?_
  refine Ex1.assignSwapped (xs := ["left", "pile", "found"]) (by intro _; rfl) (by intro _ _; rfl) (by decide) ?_
  repeat' tb_start
  refine Fn.listOf eF (by simp; omega) ?_
  intro Lf hLf
  repeat' tb_start
  intro P hP
  repeat' tb_start
  intro Fd hFd
  repeat' tb_start
  intro tt htt
  have nLP : Lf ≠ P := AH.ne_of (AH.set_self _ _ _) hP
  have nPF : P ≠ Fd := AH.ne_of (AH.set_self _ _ _) hFd
  have nLF : Lf ≠ Fd := AH.ne_of ((AH.set_ne _ _ nLP).trans (AH.set_self _ _ _)) hFd
  have ex1 : Ext ah (ah.set Lf (.list (ms.map AV.ref))) := Ext.refl.new hLf
  have ex2 := ex1.new (o := .list []) hP
  have ex3 := ex2.new (o := .list []) hFd
  have N : GN ah Lf P Fd := ⟨hLf, ex1.none hP, ex2.none hFd, nLP, nLF, nPF⟩
  have J0 : GH ah (((ah.set Lf (.list (ms.map AV.ref))).set P (.list [])).set Fd (.list [])) Lf P Fd ms marks [] [] :=
    ⟨(AH.set_ne _ _ nLF).trans ((AH.set_ne _ _ nLP).trans (AH.set_self _ _ _)), hat.ext ex3, (AH.set_ne _ _ nPF).trans (AH.set_self _ _ _), AH.set_self _ _ _, ex3⟩
  have J1 := J0.new (o := .tup [.ref Lf, .ref P, .ref Fd]) htt
  refine ⟨tt, _, rfl, AH.set_self _ _ _, rfl, ?_⟩
  clear J0 nLP nPF nLF ex1 ex2 ex3 htt hFd hP
  revert J1
  generalize (((ah.set Lf (.list (ms.map AV.ref))).set P (.list [])).set Fd (.list [])).set tt (.tup [.ref Lf, .ref P, .ref Fd]) = ahX
  intro J1
  show Ex _ _ _ _ _ _ _ _
  refine Ex.cons ?_
  refine Ex1.while (fun k m ah' => ∃ rs left pile f r, LI ah Lf P Fd res k m ah' rs left pile f r) k0 ⟨ms, marks, [], [], res, ⟨rfl, rfl, rfl⟩, J1, R, by cases res <;> simp, by simp; omega, hml, by simp; omega⟩ ?_
  clear J1 R hml hmz eF hat
  rintro k m ah1 ⟨rs, left, pile, f, r, J⟩
  have mL := J.M.mL
  have mP := J.M.mP
  have mF := J.M.mF
  have eL := J.G.eL
  have eP := J.G.eP
  have hrl := J.G.at_.length
  have hb1 := J.b1
  have hb2 := J.b2
  have hb3 := J.b3
  repeat' tb_start
  intro b hb
  have J2 := J.G.new (o := .list []) hb
  have eL2 := J2.eL
  have eP2 := J2.eP
  repeat' tb_start
  cases left with
  | nil =>
    have : rs = [] := by cases rs with | nil => rfl | cons _ _ => simp at hrl
    subst this
    have J0 := J
    refine ite_f ff ?_
    show Ex _ _ _ _ _ _ _ _
    have hr : r = tailP pile := by cases J.R; rfl
    have hres : res = (tailP pile).map (f ++ ·) := by rw [← hr]; exact J.e
    refine Ex.cons ?_
    refine Ex1.while (fun k' m' ah' => ∃ rs p g, p.length = k' ∧ p.length ≤ 300 ∧ g.length ≤ 1000 - p.length ∧ GM m' Lf P Fd ∧ GH ah ah' Lf P Fd rs [] p g ∧ res = (tailP p).map (g ++ ·)) pile.length ⟨[], pile, f, rfl, by omega, by omega, ⟨mL, mP, mF⟩, J2, hres⟩ ?_
    rintro k' m' ah2 ⟨rs, p, g, hpk, hp3, hg3, ⟨mL', mP', mF'⟩, G, hres'⟩
    have eP' := G.eP
    repeat' tb_start
    intro b' hb'
    have G2 := G.new (o := .list []) hb'
    have eP2' := G2.eP
    have eF2' := G2.eF
    repeat' tb_start
    by_cases h0 : p = []
    · subst h0
      refine ite_f ff ?_
      (repeat' tb_start)
      refine h g (by rw [hres']; unfold tailP; rw [if_neg (by simp)]; simp) Fd _ N.nF eF2' G2.ex
    · refine ite_t (by cases hp : p with | nil => exact absurd hp h0 | cons _ _ => rfl) ?_
      repeat' tb_start
      have eP3' := eP2'
      rw [last_pop h0] at eP3'
      refine Fn.pop eP3' (by simp; omega) ?_
      have G3 := G2.setP N p.dropLast
      have eF3' := G3.eF
      repeat' tb_start
      have hdl : p = p.dropLast ++ [topP p] := by
        have := List.dropLast_concat_getLast h0
        have ht : topP p = p.getLast h0 := by unfold topP; rw [List.getLast?_eq_some_getLast h0]; rfl
        rw [ht]; exact this.symm
      have hlen : p.dropLast.length + 1 = p.length := by
        have : 0 < p.length := List.length_pos_iff.mpr h0
        simp; omega
      by_cases hz : topP p = 0
      · refine ite_t (by rw [hz]; rfl) ?_
        (repeat' tb_start)
        refine hN ?_ _ G3.ex
        rw [hres']; unfold tailP
        rw [if_pos (by rw [hdl, hz]; simp)]; rfl
      · refine ite_f (by simpa using hz) ?_
        repeat' tb_start
        have G4 := G3.setF1 N "v}"
        refine ⟨p.dropLast.length, by omega, rs, p.dropLast, g ++ (["v}"] : List Str), rfl, by omega, by simp; omega, ⟨mL', mP', mF'⟩, G4, ?_⟩
        rw [hres']
        unfold tailP
        have hiff : ((0 : Int) ∈ p) ↔ (0 : Int) ∈ p.dropLast := by
          constructor
          · intro z
            rw [hdl] at z
            rcases List.mem_append.mp z with z | z
            · exact z
            · exact absurd (List.mem_singleton.mp z).symm hz
          · exact fun z => (List.dropLast_sublist p).subset z
        by_cases hm : (0 : Int) ∈ p
        · rw [if_pos hm, if_pos (hiff.mp hm)]; rfl
        · rw [if_neg hm, if_neg (fun z => hm (hiff.mpr z)), ← hlen, Option.map_some, Option.map_some, List.append_assoc, List.singleton_append, ← List.replicate_succ]
  | cons x rest =>
    cases rs with
    | nil => simp at hrl
    | cons q qs =>
      obtain ⟨t, c⟩ := x
      have eq : (ah1.set b (.list [])) q = some (.tup [.str t, .int c]) := by have := J2.at_; cases this with | cons h _ => exact h
      have hqs : At markO (ah1.set b (.list [])) qs rest := by have := J2.at_; cases this with | cons _ h => exact h
      refine ite_t rfl ?_
      generalize ah1.set b (.list []) = ah2 at J2 eL2 eP2 eq hqs ⊢
      iterate 12 tb_start
      refine Ex.cons ?_
      refine Ex1.assignName (by intro _; exact rfl) rfl ?_
      refine Ev.mono (Q := fun v ah3 => v = .int (topP pile) ∧ Ext ah2 ah3) ?_ ?_
      · repeat' tb_start
        intro b3 hb3'
        have e3 : Ext ah2 (ah2.set b3 (.list [])) := Ext.refl.new hb3'
        have eP3 := e3 _ _ eP2
        repeat' tb_start
        cases h0 : pile.getLast? with
        | none =>
          have hnil : pile = [] := List.getLast?_eq_none_iff.mp h0
          refine ite_f (by rw [hnil]; decide) ?_
          refine Ev.int ?_
          exact ⟨by rw [hnil]; rfl, e3⟩
        | some tp =>
          refine ite_t (by cases hp : pile with | nil => rw [hp] at h0; cases h0 | cons _ _ => rfl) ?_
          repeat' tb_start
          refine Sub.last (vs := pile.map AV.int) eP3 (by rw [List.getLast?_map, h0]; rfl) (by intro _ _; rfl) ?_
          exact ⟨by unfold topP; rw [h0]; rfl, e3⟩
      · rintro v ah3 ⟨rfl, e3⟩
        have J3 : GH ah ah3 Lf P Fd (q :: qs) ((t, c) :: rest) pile f := ⟨e3 _ _ J2.eL, J2.at_.ext e3, e3 _ _ J2.eP, e3 _ _ J2.eF, J2.ex.trans e3⟩
        have hq3 : At markO ah3 qs rest := hqs.ext e3
        clear J2 eL2 eP2 eq hqs e3 eL eP
        have eL := J3.eL
        have eP := J3.eP
        have eF := J3.eF
        have hpl : pile.length ≤ 300 := by omega
        have hfl : f.length ≤ 700 := by omega
        have hql : qs.length ≤ 100 := by have := hq3.length; simp at hb2; omega
        have popL : ∀ {ahx p' f'}, GH ah ahx Lf P Fd (q :: qs) ((t, c) :: rest) p' f' → At markO ahx qs rest → GH ah (ahx.set Lf (.list (qs.map AV.ref))) Lf P Fd qs rest p' f' := fun J a => J.setL N a
        cases ht1 : (t == "<n>") with
        | true =>
          obtain rfl : t = "<n>" := eq_of_beq ht1
          have hs0 : laidStep ("<n>", c) rest pile = (if 0 < topP pile ∧ c < topP pile then some ((["v}"] : List Str), (("<n>", c) : Mark) :: rest, pile.dropLast) else some (if 0 < topP pile ∧ c = topP pile then ["v;"] else [], rest, pile)) := by
            unfold laidStep; rw [if_pos ht1]
          repeat' tb_start
          refine ite_t rfl ?_
          refine Ex.cons ?_
          refine Ex1.if ?_
          refine Ts.still (P := fun v => v = decide (0 < topP pile ∧ c = topP pile)) ?_ ?_
          · repeat' tb_start
            by_cases h1 : 0 < topP pile
            · refine ite_t (by simpa using h1) ?_
              repeat' tb_start
              by_cases h2 : c = topP pile
              · exact ite_t (by simpa using h2) (Ts.andNil ⟨by simp [h1, h2], rfl⟩)
              · exact ite_f (by simpa using h2) ⟨by simp [h2], rfl⟩
            · exact ite_f (by simpa using h1) ⟨by simp [h1], rfl⟩
          · rintro v rfl
            by_cases hc : 0 < topP pile ∧ c = topP pile
            · refine ite_t (decide_eq_true hc) ?_
              repeat' tb_start
              have J4 := J3.setF1 N "v;"
              have eL4 := J4.eL
              have eP4 := J4.eP
              have hnl : ¬ (0 < topP pile ∧ c < topP pile) := by omega
              refine ite_t (by simpa using hc.1) ?_
              repeat' tb_start
              refine ite_f (by simp; omega) ?_
              refine ite_f ff ?_
              repeat' tb_start
              refine Fn.pop0 (v := .ref q) (vs := qs.map AV.ref) eL4 (by simp; omega) ?_
              (repeat' tb_start)
              have J5 := popL J4 (hq3.mono (tup_set (f := fun r : Mark => [.str r.1, .int r.2]) J3.eF))
              exact J.next (by rw [hs0, if_neg hnl, if_pos hc]) ⟨mL, mP, mF⟩ J5
            · refine ite_f (by simpa using hc) ?_
              refine Ex.nil ?_
              refine Ex.cons ?_
              refine Ex1.if ?_
              refine Ts.still (P := fun v => v = decide (0 < topP pile ∧ c < topP pile)) ?_ ?_
              · repeat' tb_start
                by_cases h1 : 0 < topP pile
                · refine ite_t (by simpa using h1) ?_
                  repeat' tb_start
                  by_cases h2 : c < topP pile
                  · exact ite_t (by simpa using h2) (Ts.andNil ⟨by simp [h1, h2], rfl⟩)
                  · exact ite_f (by simpa using h2) ⟨by simp [h2], rfl⟩
                · exact ite_f (by simpa using h1) ⟨by simp [h1], rfl⟩
              · rintro v rfl
                by_cases hd : 0 < topP pile ∧ c < topP pile
                · refine ite_t (decide_eq_true hd) ?_
                  have h0 : pile ≠ [] := by intro z; rw [z] at hd; exact absurd hd.1 (by decide)
                  repeat' tb_start
                  have J4 := J3.setF1 N "v}"
                  have eP4 := J4.eP
                  repeat' tb_start
                  rw [last_pop h0] at eP4
                  refine Fn.pop eP4 (by simp; omega) ?_
                  (repeat' tb_start)
                  have J5 := J4.setP N pile.dropLast
                  exact J.next (by rw [hs0, if_pos hd]) ⟨mL, mP, mF⟩ J5
                · refine ite_f (by simpa using hd) ?_
                  repeat' tb_start
                  refine Fn.pop0 (v := .ref q) (vs := qs.map AV.ref) eL (by simp; omega) ?_
                  (repeat' tb_start)
                  have J5 := popL J3 hq3
                  exact J.next (o := []) (by rw [hs0, if_neg hd, if_neg hc]) ⟨mL, mP, mF⟩ (by rw [List.append_nil]; exact J5)
        | false =>
          cases ht2 : (t == "{n}") with
          | true =>
            obtain rfl : t = "{n}" := eq_of_beq ht2
            repeat' tb_start
            refine ite_f ff ?_
            repeat' tb_start
            refine ite_t rfl ?_
            have J4 := popL J3 hq3
            repeat' tb_start
            refine Fn.pop0 (v := .ref q) (vs := qs.map AV.ref) eL (by simp; omega) ?_
            have eP4 := J4.eP
            have eF4 := J4.eF
            repeat' tb_start
            have J5 := J4.setF1 N "v{"
            have eP5 := J5.eP
            have eF5 := J5.eF
            by_cases hlt : topP pile < c
            · have hs : laidStep ("{n}", c) rest pile = some ((["v{"] : List Str), rest, pile ++ [c]) := by unfold laidStep; rw [if_neg (fun z => ff (ht1.symm.trans z)), if_pos ht2, if_pos hlt]
              refine ite_t (by simpa using hlt) ?_
              (repeat' tb_start)
              have J6 := J5.setP1 N c
              exact J.next hs ⟨mL, mP, mF⟩ J6
            · have hs : laidStep ("{n}", c) rest pile = some ((["v{", "v}"] : List Str), (("<n>", c) : Mark) :: rest, pile) := by unfold laidStep; rw [if_neg (fun z => ff (ht1.symm.trans z)), if_pos ht2, if_neg hlt]
              refine ite_f (by simpa using hlt) ?_
              repeat' tb_start
              have J6 := J5.setF1 N "v}"
              have eL6 := J6.eL
              repeat' tb_start
              intro tt htt
              have J7 := J6.new (o := .tup [.str "<n>", .int c]) htt
              have eL7 := J7.eL
              refine Evs.nil ?_
              refine Fn.insert0 eL7 (by simp; omega) ?_
              (repeat' tb_start)
              have J8 := J7.setL N (rs' := tt :: qs) (l' := ("<n>", c) :: rest) (.cons (AH.set_self _ _ _) J7.at_)
              rw [List.append_assoc] at J8
              exact J.next hs ⟨mL, mP, mF⟩ J8
          | false =>
            repeat' tb_start
            refine ite_f (fun z => ff (ht1.symm.trans z)) ?_
            repeat' tb_start
            refine ite_f (fun z => ff (ht2.symm.trans z)) ?_
            have J4 := popL J3 hq3
            repeat' tb_start
            refine Fn.pop0 (v := .ref q) (vs := qs.map AV.ref) eL (by simp; omega) ?_
            have eP4 := J4.eP
            have eF4 := J4.eF
            repeat' tb_start
            have hs0 : laidStep (t, c) rest pile = if t == "{" then some ((["{"] : List Str), rest, pile ++ [0]) else if t == "}" then (if pile = [] ∨ topP pile ≠ 0 then none else some ((["}"] : List Str), rest, pile.dropLast)) else some (([t] : List Str), rest, pile) := by
              unfold laidStep; rw [if_neg (fun z => ff (ht1.symm.trans z)), if_neg (fun z => ff (ht2.symm.trans z))]
            cases ht3 : (t == "{") with
            | true =>
              obtain rfl : t = "{" := eq_of_beq ht3
              refine ite_t rfl ?_
              repeat' tb_start
              refine ite_f ff ?_
              refine ite_f ff ?_
              have J6 := J4.setP1 N 0
              have eF6 := J6.eF
              (repeat' tb_start)
              have J7 := J6.setF1 N "{"
              exact J.next hs0 ⟨mL, mP, mF⟩ J7
            | false =>
              rw [ht3, if_neg ff] at hs0
              refine ite_f ff ?_
              repeat' tb_start
              cases ht4 : (t == "}") with
              | true =>
                obtain rfl : t = "}" := eq_of_beq ht4
                rw [ht4, if_pos rfl] at hs0
                refine ite_t rfl ?_
                repeat' tb_start
                intro b5 hb5
                have J5 := J4.new (o := .list []) hb5
                have eP5 := J5.eP
                have eF5 := J5.eF
                repeat' tb_start
                by_cases h0 : pile = []
                · refine ite_t (by rw [h0]; rfl) ?_
                  refine ite_t rfl ?_
                  refine Ts.andNil ?_
                  refine ite_t rfl ?_
                  (repeat' tb_start)
                  exact hN (J.bad (by rw [hs0, if_pos (.inl h0)])) _ J5.ex
                · refine ite_f (by cases hp : pile with | nil => exact absurd hp h0 | cons _ _ => exact ff) ?_
                  repeat' tb_start
                  rw [last_pop h0] at eP5
                  refine Fn.pop eP5 (by simp; omega) ?_
                  have J6 := J5.setP N pile.dropLast
                  have eF6 := J6.eF
                  repeat' tb_start
                  by_cases hz : topP pile = 0
                  · refine ite_f (by rw [hz]; decide) ?_
                    refine Ts.orNil ?_
                    refine ite_f ff ?_
                    refine ite_f ff ?_
                    (repeat' tb_start)
                    have J7 := J6.setF1 N "}"
                    exact J.next (by rw [hs0, if_neg (by rintro (z | z); exact h0 z; exact z hz)]) ⟨mL, mP, mF⟩ J7
                  · refine ite_t (by simpa using hz) ?_
                    refine ite_t rfl ?_
                    refine Ts.andNil ?_
                    refine ite_t rfl ?_
                    (repeat' tb_start)
                    exact hN (J.bad (by rw [hs0, if_pos (.inr hz)])) _ J6.ex
              | false =>
                rw [ht4, if_neg ff] at hs0
                refine ite_f ff ?_
                refine ite_f ff ?_
                (repeat' tb_start)
                have J7 := J4.setF1 N t
                exact J.next hs0 ⟨mL, mP, mF⟩ J7
end

noncomputable def lineT (x : Int × List Str) : Str := Txt.mul " " (x.1 - 1) ++ Txt.join " " x.2
noncomputable def textOf (lns : List (Int × List Str)) : Str := Txt.join "\n" (lns.map lineT)
theorem str_len (x : Str) : x.length = x.cps.toList.length := by show x.cps.size = _; simp
theorem app_cps (x y : Str) : (x ++ y).cps.toList = x.cps.toList ++ y.cps.toList := by
  show (x.cps ++ y.cps).toList = _; simp
theorem join_cons2 (s x y : Str) (r : List Str) : Txt.join s (x :: y :: r) = x ++ s ++ Txt.join s (y :: r) := by
  unfold Txt.join
  rw [StrLaws.glued_eq_join, StrLaws.glued_eq_join]; rfl
theorem join_len (s : Str) : ∀ l : List Str, (Txt.join s l).length ≤ (l.map (·.length)).sum + l.length * s.length
  | [] => by
    have : Txt.join s [] = Str.join s [] := by unfold Txt.join; rw [StrLaws.glued_eq_join]
    rw [this]; exact Nat.zero_le _
  | [x] => by
    have : Txt.join s [x] = Str.join s [x] := by unfold Txt.join; rw [StrLaws.glued_eq_join]
    rw [this]; show x.length ≤ _; simp
  | x :: y :: r => by
    have := join_len s (y :: r)
    rw [join_cons2, str_len, app_cps, app_cps, List.length_append, List.length_append, ← str_len, ← str_len, ← str_len]
    simp only [List.map_cons, List.sum_cons, List.length_cons] at this ⊢
    rw [Nat.add_mul _ 1, Nat.one_mul]
    omega
theorem mul_cps (n : Int) : (Txt.mul " " n).cps.toList = List.replicate n.toNat 32 := mul_one_list 32 n
theorem mul_ok : ∀ n : Int, 0 ≤ n → n ≤ 8 → MulOk " " n := by
  intro n h0 h8
  have : n = 0 ∨ n = 1 ∨ n = 2 ∨ n = 3 ∨ n = 4 ∨ n = 5 ∨ n = 6 ∨ n = 7 ∨ n = 8 := by omega
  rcases this with rfl | rfl | rfl | rfl | rfl | rfl | rfl | rfl | rfl <;> (unfold MulOk; decide +kernel)
theorem sum_le (l : List Str) (b : Nat) (h : ∀ x ∈ l, x.length ≤ b) : (l.map (·.length)).sum ≤ l.length * b := by
  induction l with
  | nil => simp
  | cons x r ih =>
    have h1 := h x List.mem_cons_self
    have h2 := ih fun y hy => h y (List.mem_cons_of_mem _ hy)
    simp only [List.map_cons, List.sum_cons, List.length_cons, Nat.add_mul, Nat.one_mul]
    omega
theorem lineT_len {x : Int × List Str} (h2 : x.1 ≤ 9) (h4 : x.2.length ≤ 3) (hv : ∀ w ∈ x.2, w ∈ vocab) : (lineT x).length ≤ 40 := by
  unfold lineT
  rw [str_len, app_cps, List.length_append, mul_cps, List.length_replicate, ← str_len]
  have h5 := join_len " " x.2
  have h6 := sum_le x.2 6 fun w hw => vocab_len w (hv w hw)
  have h7 : (" " : Str).length = 1 := rfl
  rw [h7] at h5
  omega
theorem text_len {lns : List (Int × List Str)} (g : GoodL lns) : (textOf lns).length ≤ 1000 := by
  unfold textOf
  have h5 := join_len "\n" (lns.map lineT)
  have h6 := sum_le (lns.map lineT) 40 fun w hw => by
    obtain ⟨x, hx, rfl⟩ := List.mem_map.mp hw
    have gx := g.2 x hx
    exact lineT_len gx.2.1 gx.2.2.2.1 gx.2.2.2.2
  have h7 : ("\n" : Str).length = 1 := rfl
  rw [h7] at h5
  rw [List.length_map] at h5 h6
  have := g.1
  omega

section
variable {w : World} {n : Nat} {ah : AH} {X : AH → Prop} {Q : AV → AH → Prop} {S Ls : Addr} {ts was : List Addr} {lns : List (Int × List Str)}
set_option maxHeartbeats 8000000 in
theorem text_spec (hLs : ah Ls = some (.list (ts.map AV.ref))) (ln : LnsAt ah S ts was lns) (g : GoodL lns) (h : ∀ ah', Ext ah ah' → Q (.str (textOf lns)) ah') : Fn w (n + 2) (.ref 435) [.ref Ls] ah Q X := by
  refine Fn.def (lb := [("lines", .ref Ls)]) (by k_is) (by k_is) (b1 fun _ => rfl) (locs_of rfl) rfl rfl rfl (by decide) ?_
  have hlen := ln.length
  refine Ex.cons ?_
  refine Ex1.ret ?_
  refine Ev.meth (by intro _; exact rfl) (by intro _ _; exact rfl) (by intro _ _; exact rfl) ?_
  refine Ev.str ?_
  refine Meth.join ?_
  refine Evs.cons (by intro _ _; exact rfl) ?_
  refine Ev.comp (by decide) (by decide) rfl (by decide) (by intro _ _; rfl) ?_
  refine Ev.local rfl rfl (by decide) ?_
  have pair : ∀ (i : Nat) x, (ts.map AV.ref)[i]? = some x → ∃ t c ws wa, x = .ref t ∧ lns[i]? = some (c, ws) ∧ ah t = some (.tup [.int c, .ref wa]) ∧ ah wa = some (.list (ws.map AV.str)) := by
    intro i x hx
    rw [List.getElem?_map, Option.map_eq_some_iff] at hx
    obtain ⟨t, ht, rfl⟩ := hx
    obtain ⟨c, ws, wa, e1, e2, e3⟩ := ln.get ht
    exact ⟨t, c, ws, wa, rfl, e1, e2, e3⟩
  refine ⟨Ls, ts.map AV.ref, (lns.map lineT).map AV.str, rfl, hLs, by have := g.1; simp; omega, by simp [hlen], .inr ⟨_, _, _, rfl, fun x hx => by obtain ⟨a, _, rfl⟩ := List.mem_map.mp hx; exact ⟨a, rfl⟩⟩,
    ⟨fun a => match a with
      | .ref t => match ah t with
        | some (.tup [a, b]) => fun z => if z = "words" then some b else if z = "column" then some a else none
        | _ => fun _ => none
      | _ => fun _ => none, fun i x hx => ?_, fun i a b ha hb => ?_⟩, fun D hD => ?_⟩
  · obtain ⟨t, c, ws, wa, rfl, e1, e2, e3⟩ := pair i x hx
    dsimp only
    rw [e2]
    exact Tgt.pair rfl rfl rfl e2
  · obtain ⟨t, c, ws, wa, rfl, e1, e2, e3⟩ := pair i a ha
    rw [List.getElem?_map, List.getElem?_map, e1] at hb
    cases hb
    have gx := g.2 _ (List.mem_of_getElem? e1)
    dsimp only
    rw [e2]
    dsimp only at gx ⊢
    have hj := join_len " " ws
    have hs := sum_le ws 6 fun w hw => vocab_len w (gx.2.2.2.2 w hw)
    refine Ce.binop ?_
    refine Ce.binop ?_
    refine Ce.str ?_
    refine Ce.binop ?_
    refine Ce.local (a := .int c) rfl rfl (by intro _ _ _; rfl) (by decide) ?_
    refine Ce.int ?_
    intro m
    refine Bop.subi ?_
    intro m
    refine Bop.muls (mul_ok _ (by omega) (by omega)) ?_
    refine Ce.meth1 (by intro _; exact rfl) (by intro _ _; exact rfl) ?_
    refine Ce.str ?_
    refine Meth.join ?_
    refine Ce.local (a := .ref wa) rfl rfl (by intro _ _ _; rfl) (by decide) ?_
    have h7 : (" " : Str).length = 1 := rfl
    rw [h7] at hj
    refine Fn.join e3 (by decide) (by omega) ?_
    intro m
    refine Bop.adds ?_ ⟨rfl, rfl⟩
    rw [sizeLine_eq]
    have : (Txt.mul " " (c - 1)).length ≤ 8 := by rw [str_len, mul_cps, List.length_replicate]; omega
    have h9 : (Txt.mul (Str.ofString " ") (c - 1)).length ≤ 8 := this
    have h10 : (Txt.join (Str.ofString " ") ws).length ≤ (ws.map (·.length)).sum + ws.length * 1 := hj
    omega
  · refine Evs.nil ?_
    have h6 := sum_le (lns.map lineT) 40 fun w hw => by
      obtain ⟨x, hx, rfl⟩ := List.mem_map.mp hw
      have gx := g.2 x hx
      exact lineT_len gx.2.1 gx.2.2.2.1 gx.2.2.2.2
    rw [List.length_map] at h6
    have := g.1
    refine Fn.join (AH.set_self _ _ _) (by decide) (by rw [List.length_map]; omega) ?_
    exact h _ (Ext.refl.new hD)
end

section
variable {w : World} {n : Nat} {ah : AH} {X : AH → Prop} {Q : AV → AH → Prop} {S ws : Addr} {refs : List Addr} {ds : List WD} {d : WD}
theorem real_stack {σ σ1 : MS} {d pd : WD} (h : foundP σ d = some (pd, σ1)) (hv : isV pd = false) : σ1.stack = σ.stack ∧ pd = d := by
  unfold foundP openP endP alignP at h
  split at h
  · split at h <;> (cases h; cases hv)
  · split at h
    · cases h; cases hv
    · split at h
      · split at h
        · cases h; exact ⟨rfl, rfl⟩
        · split at h
          · cases h
          · cases h; cases hv
      · split at h
        · split at h
          · cases h; cases hv
          · split at h
            · cases h; cases hv
            · cases h; exact ⟨rfl, rfl⟩
        · cases h; exact ⟨rfl, rfl⟩
theorem stepR_open {σ σ' : MS} {pd : WD} (h : stepR ds σ = some (pd, σ')) : ∃ d' σ1, ds[σ.at_]? = some d' ∧ foundP σ d' = some (pd, σ1) ∧ nextP ds σ1 pd = some (pd, σ') := by
  unfold stepR at h
  cases q : ds[σ.at_]? with
  | none => rw [q] at h; cases h
  | some d' =>
    rw [q, Option.bind_some] at h
    cases f : foundP σ d' with
    | none => rw [f] at h; cases h
    | some y =>
      obtain ⟨pd', σ1⟩ := y
      rw [f, Option.bind_some] at h
      have := nextP_facts h
      subst this
      exact ⟨d', σ1, rfl, f, h⟩
theorem Run.head {k : Nat} {σ : MS} {o : WD} {rest : List WD} (R : Run ds k σ (some (o :: rest))) : ∃ σ', stepR ds σ = some (o, σ') ∧ ((rest = [] ∧ o.kind = "end") ∨ (o.kind ≠ "end" ∧ ∃ k', Run ds k' σ' (some rest))) := by
  generalize hr : some (o :: rest) = r at R
  cases R with
  | fin _ h e => cases hr; exact ⟨_, h, .inl ⟨rfl, e⟩⟩
  | err _ _ _ => cases hr
  | @step k' _ σ' pd r' _ h e R' =>
    cases r' with
    | none => cases hr
    | some r' => cases hr; exact ⟨_, h, .inr ⟨e, k', R'⟩⟩
theorem Run.ne {k : Nat} {σ : MS} {l : List WD} (R : Run ds k σ (some l)) : l ≠ [] := by
  generalize hr : some l = r at R
  cases R with
  | fin _ h e => cases hr; simp
  | err _ _ _ => cases hr
  | @step k' _ σ' pd r' _ h e R' =>
    cases r' with
    | none => cases hr
    | some r' => cases hr; simp
theorem dv_small {y : Int} (h : 0 ≤ y) (h' : y < 2 ^ 62) (x : Int) : Builtin.divisionGoesByPylong x y = false := by
  unfold Builtin.divisionGoesByPylong
  have : ¬ ((if y == 0 then 0 else y.natAbs.log2 / 30 + 1) > 300) := by
    split
    · omega
    · rename_i hz
      have h0 : y.natAbs ≠ 0 := by intro z; apply hz; simp; omega
      have : y.natAbs.log2 < 62 := (Nat.log2_lt h0).mpr (by omega)
      omega
  simp only [decide_eq_false this, Bool.false_and]
theorem slice_v (t : Str) : Txt.slice ("v" ++ t) none (some 1) = "v" := by
  refine str_ext_list ?_
  have := slice_cps0 ("v" ++ t) 1
  rw [show ((1 : Nat) : Int) = 1 from rfl] at this
  rw [this, app_cps]
  rfl
set_option maxHeartbeats 8000000 in
theorem peeked_spec {outs : List WD} {k0 : Nat} {dueA : Addr} (eS : SrcAt ah S) (ew : ah ws = some (.list (refs.map AV.ref))) (wd : WsAt ah refs ds) (W : WF ds) (hd : ds[0]? = some d) (R : Run ds k0 (initP d) (some outs)) (hol : outs.length ≤ 500)
    (edue : ah dueA = some (.list ((outs.map shownP).dropLast.map AV.str))) (hl : ∀ d ∈ outs, d.text.length ≤ 1000) (hnS : ws ≠ S ∧ dueA ≠ S) (hv : ∀ d ∈ ds, ((Txt.slice (shownP d) none (some 1)) != "v") = true)
    (h : ∀ ah', Q (.bool true) ah') : Fn w (n + 9) (.ref 466) [.ref S, .ref ws, .ref dueA] ah Q X := by
  refine Fn.def (lb := [("source", .ref S), ("words", .ref ws), ("due", .ref dueA)]) (by k_is) (by k_is) (b3 fun _ _ _ => rfl) (locs_of rfl) rfl rfl rfl (by decide) ?_
  have ff : ¬ ((false : Bool) = true) := by decide
  refine Ex.cons ?_
  refine Ex1.assignSwapped (xs := ["layout", "found"]) (by intro _; rfl) (by intro _ _; rfl) (by decide) ?_
  repeat' tb_start
  refine layout_spec ew wd hd ?_
  intro L st ah1 nL ns J ex
  repeat' tb_start
  intro fd hfd
  repeat' tb_start
  intro tt htt
  refine ⟨tt, _, rfl, AH.set_self _ _ _, rfl, ?_⟩
  have ex2 := (ex.new (o := .list []) hfd).new (o := .tup [.ref L, .ref fd]) htt
  have J2 := (J.new (o := .list []) hfd).new (o := .tup [.ref L, .ref fd]) htt
  revert ex2 J2
  generalize (ah1.set fd (.list [])).set tt (.tup [.ref L, .ref fd]) = ah2
  intro ex2 J2
  clear htt hfd J ex
  show Ex _ _ _ _ _ _ _ _
  have eS2 : SrcAt ah2 S := by obtain ⟨A, B, e, r⟩ := eS; exact ⟨A, B, ex2 _ _ e, r⟩
  have edue2 := ex2 _ _ edue
  have hdl : (outs.map shownP).dropLast.length = outs.length - 1 := by simp
  repeat' tb_start
  refine take2_spec eS2 (by omega) (dv_small (by omega) (by simp; omega)) ?_
  intro t ah3 ht e3 k3 f3
  have nLS : L ≠ S := by obtain ⟨A, B, e, r⟩ := eS; exact (AH.ne_of e nL).symm
  have nsS : st ≠ S := by obtain ⟨A, B, e, r⟩ := eS; exact (AH.ne_of e ns).symm
  have nDL : dueA ≠ L := AH.ne_of edue nL
  have nDs : dueA ≠ st := AH.ne_of edue ns
  have ht' : t ≤ outs.length - 1 := by simp at ht; omega
  have J3 : LAt ah3 L ws st refs ds (initP d) .none := ⟨k3 _ _ nLS nLS J2.eL, k3 _ _ hnS.1 hnS.1 J2.ew, J2.wd.mono fun r d e => by
      have : r ≠ S := by obtain ⟨A, B, e', _⟩ := eS2; exact AH.ne_of2 e e' (by intro z; cases z)
      exact k3 _ _ this this e, k3 _ _ nsS nsS J2.es, J2.ne, J2.dsh, J2.hsz⟩
  have edue3 := k3 _ _ hnS.2 hnS.2 edue2
  clear eS2 e3 k3 f3 J2 edue2 ex2 ht
  repeat' tb_start
  refine Ex1.forRange (by intro _ _; rfl) (by intro _ _; rfl) (by intro _; rfl) (by intro _ _; rfl) (by k_is) rfl ?_
  refine Ev.local rfl rfl (by decide) ?_
  refine ⟨t, rfl, by omega, fun i m ah' => m "layout" = some (.ref L) ∧ m "due" = some (.ref dueA) ∧ ah' dueA = some (.list ((outs.map shownP).dropLast.map AV.str)) ∧ ∃ σ k, LAt ah' L ws st refs ds σ .none ∧ Run ds k σ (some (outs.drop i)), ⟨rfl, rfl, edue3, _, k0, J3, R⟩, ?_, ?_⟩
  · clear J3 edue3 R
    rintro i m ah4 hi ⟨ml, md, edue4, σ, k, J, R⟩
    have hio : i < outs.length := by omega
    rw [List.drop_eq_getElem_cons hio] at R
    obtain ⟨σ', hst, hcase⟩ := R.head
    obtain ⟨d', σ1, hd', hf, hnx⟩ := stepR_open hst
    have hnz := R.at.1
    obtain ⟨f1, f2, f3⟩ := foundP_facts hf
    refine As.name rfl ?_
    have eL := J.eL
    repeat' tb_start
    refine peek0_spec J hd' W.z (by omega) (fun pd' σ1' hq p ah5 ep J5 K5 => ?_) (fun z => by rw [hf] at z; cases z)
    rw [hf] at hq; cases hq
    have edue5 := K5 _ _ nDL nDs edue4
    have eL5 := J5.eL
    repeat' tb_start
    refine peek1_spec J5 ?_
    repeat' tb_start
    refine ite_f (by simp) ?_
    repeat' tb_start
    refine next_spec (refs := refs) (pd := outs[i]) (σ1 := σ1) J5.eL (fun {Q'} kk => peek1_spec J5 (kk p ah5 ep J5 Keep.refl)) W.z (by omega) (fun hk hvv => ?_) (fun σ'' hq p2 ah6 sh' ep2 hsh J6 K6 => ?_) (fun hq => by rw [hnx] at hq; cases hq)
    · rcases f1 with f1 | f1
      · rw [f1] at hvv; cases hvv
      · rw [f2]; exact W.nx _ _ hd' (by rw [← f1]; exact hk)
    · rw [hnx] at hq; cases hq
      have edue6 := K6 _ _ nDL nDs edue5
      repeat' tb_start
      refine shown_spec ep2 (hl _ (List.getElem_mem hio)) ?_
      repeat' tb_start
      have hdu : ((outs.map shownP).dropLast)[i]? = some (shownP outs[i]) := by
        rw [List.dropLast_eq_take, List.getElem?_take, if_pos (by simp; omega), List.getElem?_map, List.getElem?_eq_getElem hio]; rfl
      refine Sub.list (x := .str (shownP outs[i])) edue6 (by omega) (by omega) (by rw [Int.toNat_natCast, List.getElem?_map, hdu]; rfl) (by intro _ _; rfl) ?_
      repeat' tb_start
      refine ite_f (by show ¬ ((shownP outs[i] != shownP outs[i]) = true); simp) ?_
      refine Ts.orNil ?_
      refine ite_f ff ?_
      refine Ex.nil ?_
      refine Ex.nil ?_
      have hne : outs[i].kind ≠ "end" := by
        rcases hcase with ⟨h0, _⟩ | ⟨hk, _⟩
        · have : outs.length - (i + 1) = 0 := by rw [← List.length_drop, h0]; rfl
          omega
        · exact hk
      refine ⟨ml, md, edue6, σ', ?_⟩
      rcases hcase with ⟨h0, he⟩ | ⟨hk, k', R'⟩
      · exact absurd he hne
      · exact ⟨k', (hsh.resolve_right hne) ▸ J6, R'⟩
  · clear J3 edue3 R
    rintro m ah4 ⟨ml, md, edue4, σ, k, J, R⟩
    have hout : 0 < outs.length := by
      have := R.ne
      rw [ne_eq, List.drop_eq_nil_iff] at this
      omega
    have hto : t < outs.length := by omega
    rw [List.drop_eq_getElem_cons hto] at R
    obtain ⟨σ', hst, hcase⟩ := R.head
    obtain ⟨d', σ1, hd', hf, hnx⟩ := stepR_open hst
    have hnz := R.at.1
    have hnn := R.nn
    obtain ⟨f1, f2, f3⟩ := foundP_facts hf
    have hol' := hl _ (List.getElem_mem hto)
    revert hf hnx hcase hol'
    generalize outs[t] = pd
    intro hcase hf hnx hol'
    have eL := J.eL
    have es := J.es
    have hsz := J.hsz
    repeat' tb_start
    refine Fn.listOf es (by simp; omega) ?_
    intro b1 hb1
    have J1 := J.new (o := .list (σ.stack.map AV.int)) hb1
    have eL1 := J1.eL
    repeat' tb_start
    refine peek0_spec J1 hd' W.z (by omega) (fun pd' σ1' hq p ah5 ep J5 K5 => ?_) (fun z => by rw [hf] at z; cases z)
    rw [hf] at hq; cases hq
    have eL5 := J5.eL
    have nbL : b1 ≠ L := (AH.ne_of eL hb1).symm
    have nbs : b1 ≠ st := (AH.ne_of es hb1).symm
    have eb5 : ah5 b1 = some (.list (σ.stack.map AV.int)) := K5 _ _ nbL nbs (AH.set_self _ _ _)
    clear es eL eL1
    show Ex _ _ _ _ _ _ _ _
    refine Ex.cons ?_
    refine Ex1.assignName (by intro _; exact rfl) rfl ?_
    refine Ev.mono (Q := fun v ah6 => v = .bool (!σ.stack.isEmpty && (decide (0 < topP σ.stack) && (Txt.slice (shownP pd) none (some 1) != "v"))) ∧ Ext ah5 ah6) ?_ ?_
    · repeat' tb_start
      intro b2 hb2
      have eb6 : (ah5.set b2 (.list [])) b1 = some (.list (σ.stack.map AV.int)) := (AH.set_ne _ _ (AH.ne_of eb5 hb2)).trans eb5
      have ep6 : (ah5.set b2 (.list [])) p = some (WoO pd) := (AH.set_ne _ _ (AH.ne_of ep hb2)).trans ep
      have x6 : Ext ah5 (ah5.set b2 (.list [])) := Ext.refl.new hb2
      repeat' tb_start
      cases h0 : σ.stack.getLast? with
      | none =>
        have hnil : σ.stack = [] := List.getLast?_eq_none_iff.mp h0
        refine ite_f (by rw [hnil]; decide) ?_
        exact ⟨by rw [hnil]; rfl, x6⟩
      | some tp =>
        have hne : σ.stack.isEmpty = false := by cases hq : σ.stack with | nil => rw [hq] at h0; cases h0 | cons _ _ => rfl
        have htp : topP σ.stack = tp := by unfold topP; rw [h0]; rfl
        have hne2 : (σ.stack.map AV.int).isEmpty = false := by cases hq : σ.stack with | nil => rw [hq] at h0; cases h0 | cons _ _ => rfl
        refine ite_t (by rw [hne2]; rfl) ?_
        rw [hne, htp]
        repeat' tb_start
        refine Sub.last (vs := σ.stack.map AV.int) eb6 (by rw [List.getLast?_map, h0]; rfl) (by intro _ _; rfl) ?_
        repeat' tb_start
        by_cases hz : 0 < tp
        · refine ite_t (by simpa using hz) ?_
          refine Ev.boolOne ?_
          refine Ev.compare rfl ?_
          refine Ev.sliceStr0 (by intro _ _ _; rfl) ?_
          repeat' tb_start
          refine shown_spec ep6 hol' ?_
          refine ⟨_, rfl, ?_, ?_⟩
          · show (shownP pd).length ≤ _
            unfold shownP
            rw [str_len, app_cps, List.length_append, ← str_len, ← str_len]
            have : (Str.ofString (if isV pd = true then "v" else "")).length ≤ 1 := by split <;> decide
            omega
          · (repeat' tb_start)
            exact ⟨by rw [decide_eq_true hz]; rfl, x6⟩
        · refine ite_f (by simpa using hz) ?_
          exact ⟨by rw [decide_eq_false hz]; rfl, x6⟩
    · rintro v ah6 ⟨rfl, x6⟩
      have J6 := J5.ext x6
      have ep6 := x6 _ _ ep
      have eL6 := J6.eL
      have es6 := J6.es
      clear eb5 eL5
      repeat' tb_start
      cases hk : pd.kind == "end" with
      | true =>
        refine ite_t rfl ?_
        (repeat' tb_start)
        exact h _
      | false =>
        refine ite_f ff ?_
        repeat' tb_start
        refine Fn.listOf es6 (by have := J6.hsz; simp; omega) ?_
        intro b3 hb3
        have J7 := J6.new (o := .list (σ1.stack.map AV.int)) hb3
        have ep7 : (ah6.set b3 (.list (σ1.stack.map AV.int))) p = some (WoO pd) := (AH.set_ne _ _ (AH.ne_of ep6 hb3)).trans ep6
        have eL7 := J7.eL
        have n3L : b3 ≠ L := (AH.ne_of J6.eL hb3).symm
        have n3s : b3 ≠ st := (AH.ne_of es6 hb3).symm
        have eb7 : (ah6.set b3 (.list (σ1.stack.map AV.int))) b3 = some (.list (σ1.stack.map AV.int)) := AH.set_self _ _ _
        have hsz7 := J7.hsz
        repeat' tb_start
        have last : ∀ ah8 σ8, LAt ah8 L ws st refs ds σ8 (.ref p) → Keep L st (ah6.set b3 (.list (σ1.stack.map AV.int))) ah8 → ah8 p = some (WoO pd) := fun ah8 σ8 J8 K8 => K8 _ _ (J7.word ep7).1 (J7.word ep7).2.1 ep7
        refine close_spec J7 ep7 (fun ah8 b σ8 hcond hb8 hσ8 J8 K8 => ?_) (fun ah8 hvf htn J8 K8 => ?_)
        · subst hb8; subst hσ8
          have hin : (!σ.stack.isEmpty && (decide (0 < topP σ.stack) && (Txt.slice (shownP pd) none (some 1) != "v"))) = false := by
            rcases hcond with hvv | ht0
            · have : Txt.slice (shownP pd) none (some 1) = "v" := by unfold shownP; rw [hvv]; exact slice_v _
              rw [this]; simp
            · cases hvv : isV pd with
              | true =>
                have : Txt.slice (shownP pd) none (some 1) = "v" := by unfold shownP; rw [hvv]; exact slice_v _
                rw [this]; simp
              | false =>
                have := (real_stack hf hvv).1
                rw [this] at ht0
                rw [ht0]; simp
          rw [hin]
          have eL8 := J8.eL
          have ep8 := last _ _ J8 K8
          have eb8 := K8 _ _ n3L n3s eb7
          repeat' tb_start
          refine ite_f (by simp) ?_
          repeat' tb_start
          refine ite_f ff ?_
          repeat' tb_start
          refine Cop.eqInts J8.es eb8 ?_
          repeat' tb_start
          refine ite_t (by simp) ?_
          repeat' tb_start
          refine peek1_spec J8 ?_
          repeat' tb_start
          refine shown_spec ep8 hol' ?_
          repeat' tb_start
          refine shown_spec ep8 hol' ?_
          (repeat' tb_start)
          rw [beq_self_eq_true]
          exact h _
        · have hz := real_stack hf hvf
          have htn' : topP σ.stack ≠ 0 := by rw [← hz.1]; exact htn
          have h0 : σ.stack ≠ [] := by intro z; apply htn'; rw [z]; rfl
          have htm : topP σ.stack ∈ σ.stack := by
            have : topP σ.stack = σ.stack.getLast h0 := by unfold topP; rw [List.getLast?_eq_some_getLast h0]; rfl
            rw [this]; exact List.getLast_mem h0
          have hpos : 0 < topP σ.stack := by have := hnn _ htm; omega
          have hin : (!σ.stack.isEmpty && (decide (0 < topP σ.stack) && (Txt.slice (shownP pd) none (some 1) != "v"))) = true := by
            rw [decide_eq_true hpos, hz.2, hv _ (List.mem_of_getElem? hd')]
            cases hq : σ.stack with
            | nil => exact absurd hq h0
            | cons _ _ => rfl
          rw [hin]
          have eL8 := J8.eL
          have ep8 := last _ _ J8 K8
          have eb8 := K8 _ _ n3L n3s eb7
          repeat' tb_start
          refine ite_f (by simp) ?_
          repeat' tb_start
          refine ite_t rfl ?_
          refine Ev.sliceList0 ?_
          repeat' tb_start
          intro b4 hb4
          have hu : upto (σ1.stack.map AV.int).length (-1) = (σ1.stack.map AV.int).length - 1 := by unfold upto; rw [if_pos (by decide)]; omega
          rw [hu, ← List.dropLast_eq_take, ← List.map_dropLast]
          have J9 := J8.new (o := .list (σ1.stack.dropLast.map AV.int)) hb4
          have ep9 : (ah8.set b4 (.list (σ1.stack.dropLast.map AV.int))) p = some (WoO pd) := (AH.set_ne _ _ (AH.ne_of ep8 hb4)).trans ep8
          have eL9 := J9.eL
          refine Cop.eqInts J9.es (AH.set_self _ _ _) ?_
          repeat' tb_start
          refine ite_t (by simp) ?_
          repeat' tb_start
          refine peek1_spec J9 ?_
          repeat' tb_start
          refine shown_spec ep9 hol' ?_
          repeat' tb_start
          refine shown_spec ep9 hol' ?_
          (repeat' tb_start)
          rw [beq_self_eq_true]
          exact h _
end

noncomputable def PlainOk (lns : List (Int × List Str)) : Prop := ∃ (all : List WD) (d : WD) (k0 : Nat) (res : Option (List WD)) (k1 : Nat) (sts : Option (List Str)), Lx (textOf lns) 0 1 1 true all ∧ all.length ≤ 100 ∧ WF all ∧ all[0]? = some d ∧ Run all k0 (initP d) res ∧ k0 ≤ 900 ∧ Laid k1 (marksOf (rowsOf lns)) [] sts ∧ k1 ≤ 300 ∧ (marksOf (rowsOf lns)).length ≤ 100 ∧
  sts = res.map (fun outs => (outs.map shownP).dropLast) ∧ (∀ outs, res = some outs → outs.length ≤ 500 ∧ ∀ d ∈ outs, d.text.length ≤ 1000) ∧ (∀ d ∈ all, (Txt.slice (shownP d) none (some 1) != "v") = true)

noncomputable def wkind (t : Str) : Str := if t == "{" || t == "}" || t == ";" then "special" else if keys.any (· == t) then "key" else "var"
theorem V1 : ∀ t ∈ vocab, (wkind t == "end") = false := by decide
theorem V2 : ∀ t ∈ vocab, (wkind t == "special" && t == "{") = (t == "{") := by decide
theorem V3 : ∀ t ∈ vocab, (wkind t == "special" && t == "}") = (t == "}") := by decide
theorem V4 : ∀ t ∈ vocab, (wkind t == "key" && openers.any (· == t)) = openers.any (· == t) := by decide
theorem V5 : ∀ t ∈ vocab, (t == "<n>") = false ∧ (t == "{n}") = false := by decide
theorem V6 : ∀ t ∈ vocab, (wkind t == "key" && t == "module") = (t == "module") := by decide
theorem V7 : ∀ t ∈ vocab, ((t == "{") = true → openers.any (· == t) = false) ∧ ((t == "}") = true → openers.any (· == t) = false) ∧ ((t == "{") = true → (t == "}") = false) := by decide

inductive Match : List Row → List WD → Prop
  | nil {e : WD} (h1 : e.kind = "end") (h2 : e.v = false) (h3 : e.text = "") : Match [] [e]
  | cons {t : Str} {c : Int} {f : Bool} {d : WD} {rs : List Row} {ds : List WD} (hv : t ∈ vocab) (h1 : d.kind = wkind t) (h2 : d.text = t) (h3 : d.col = c) (h4 : d.first = f) (h5 : d.v = false) (hc : 0 ≤ c) (M : Match rs ds) : Match ((t, c, f) :: rs) (d :: ds)
noncomputable def mkTail (o : Bool) (rs : List Row) : List Mark := (marksP o rs).1 ++ (if (marksP o rs).2 then ([("{n}", 0)] : List Mark) else [])
theorem mkTail_cons (o : Bool) (t : Str) (c : Int) (f : Bool) (rs : List Row) : mkTail o ((t, c, f) :: rs) = preM o (t, c, f) ++ (t, c) :: mkTail (openers.any (· == t)) rs := by
  unfold mkTail
  rw [marksP]
  simp only [preM, List.append_assoc, List.cons_append]

noncomputable def dlP (outs : List WD) : List Str := (outs.map shownP).dropLast
noncomputable def RunOk (ds : List WD) (B : Nat) (σ : MS) (r : Option (List Str)) : Prop := ∃ k res, Run ds k σ res ∧ k ≤ B ∧ r = res.map dlP ∧ ∀ outs, res = some outs → outs ≠ [] ∧ outs.length ≤ B + 1 ∧ ∀ d ∈ outs, d.text.length ≤ 6
noncomputable def SOk (σ : MS) : Prop := σ.stack.length < 999 ∧ ∀ x ∈ σ.stack, 0 ≤ x
section
variable {ds : List WD} {B : Nat} {σ σ' : MS} {pd : WD} {r : Option (List Str)}
theorem RunOk.mono {B' : Nat} (h : RunOk ds B σ r) (hb : B ≤ B') : RunOk ds B' σ r := by
  obtain ⟨k, res, R, hk, hr, ho⟩ := h
  exact ⟨k, res, R, by omega, hr, fun outs e => ⟨(ho outs e).1, by have := (ho outs e).2.1; omega, (ho outs e).2.2⟩⟩
theorem RunOk.step (hz : SOk σ) (h : stepR ds σ = some (pd, σ')) (e : (pd.kind == "end") = false) (hl : pd.text.length ≤ 6) (R : RunOk ds B σ' r) : RunOk ds (B + 1) σ (r.map ([shownP pd] ++ ·)) := by
  obtain ⟨k, res, R, hk, hr, ho⟩ := R
  refine ⟨k + 1, _, .step hz h (ne_of_beq_false e) R, by omega, ?_, ?_⟩
  · rw [hr]
    cases res with
    | none => rfl
    | some outs =>
      have hne := (ho outs rfl).1
      cases outs with
      | nil => exact absurd rfl hne
      | cons x xs => rfl
  · intro outs' e'
    cases res with
    | none => cases e'
    | some outs =>
      cases e'
      obtain ⟨h1, h2, h3⟩ := ho outs rfl
      refine ⟨by simp, by simp; omega, fun d hd => ?_⟩
      rcases List.mem_cons.mp hd with rfl | hd
      · exact hl
      · exact h3 d hd
theorem RunOk.err (hz : SOk σ) (hd : ∃ d, ds[σ.at_]? = some d) (h : stepR ds σ = none) : RunOk ds B σ none := ⟨0, none, .err hz hd h, by omega, rfl, fun outs e => by cases e⟩
theorem RunOk.fin (hz : SOk σ) (h : stepR ds σ = some (pd, σ')) (e : pd.kind = "end") (hl : pd.text.length ≤ 6) : RunOk ds B σ (some []) :=
  ⟨0, some [pd], .fin hz h e, by omega, rfl, fun outs e => by cases e; exact ⟨by simp, by simp, fun d hd => by rw [List.mem_singleton.mp hd]; exact hl⟩⟩
theorem RunOk.congr (hz : SOk σ) (hd : ∃ d, ds[σ.at_]? = some d) (h : stepR ds σ = stepR ds σ') (R : RunOk ds B σ' r) : RunOk ds B σ r := by
  obtain ⟨k, res, R, rest⟩ := R
  refine ⟨k, res, ?_, rest⟩
  cases R with
  | fin _ hh e => exact .fin hz (h.trans hh) e
  | err _ _ hh => exact .err hz hd (h.trans hh)
  | step _ hh e R => exact .step hz (h.trans hh) e R

theorem Match.head {rs : List Row} {dss : List WD} (M : Match rs dss) : ∃ d r, dss = d :: r := by
  cases M <;> exact ⟨_, _, rfl⟩
theorem stepR_at {d : WD} (hd : ds[σ.at_]? = some d) : stepR ds σ = (foundP σ d).bind fun x => nextP ds x.2 x.1 := by
  unfold stepR; rw [hd]; rfl
theorem nextP_v {d : WD} (t : Str) : nextP ds σ (vw t d) = some (vw t d, σ) := rfl
theorem topP_snoc (q : List Int) (x : Int) : topP (q ++ [x]) = x := by unfold topP; simp
theorem end_step {d : WD} (h1 : d.kind = "end") (h2 : d.v = false) : nextP ds σ d = some (d, σ) := by
  have e1 : isV d = false := by unfold isV; rw [h2, Bool.and_false]
  have e2 : badP σ d = false := by unfold badP isW; rw [h1]; rfl
  have ff : ¬ ((false : Bool) = true) := by decide
  unfold nextP
  rw [e1, e2, if_neg ff, if_neg ff, if_pos (by rw [h1]; rfl)]
theorem tail_run {d : WD} (hd1 : d.kind = "end") (hd2 : d.v = false) (hd3 : d.text = "") (hd : ds[σ.at_]? = some d) (ho : σ.opening = false) (he : σ.empty = false) (hz : SOk σ) : RunOk ds σ.stack.length σ (tailP σ.stack) := by
  have ff : ¬ ((false : Bool) = true) := by decide
  generalize hn : σ.stack.length = n
  induction n generalizing σ with
  | zero =>
    have h0 : σ.stack = [] := List.eq_nil_of_length_eq_zero hn
    have hf : foundP σ d = some (d, σ) := by unfold foundP endP; rw [ho, if_neg ff, he, if_neg ff, if_pos (by rw [hd1]; rfl), if_pos h0]
    have hs : stepR ds σ = some (d, σ) := by rw [stepR_at hd, hf]; exact end_step hd1 hd2
    rw [h0]
    exact RunOk.fin hz hs hd1 (by rw [hd3]; decide)
  | succ n ih =>
    have hne : σ.stack ≠ [] := by intro z; rw [z] at hn; cases hn
    obtain ⟨q, x, hq⟩ : ∃ q x, σ.stack = q ++ [x] := ⟨σ.stack.dropLast, _, (List.dropLast_concat_getLast hne).symm⟩
    by_cases hx : x = 0
    · have hf : foundP σ d = none := by unfold foundP endP; rw [ho, if_neg ff, he, if_neg ff, if_pos (by rw [hd1]; rfl), if_neg hne, if_pos (by rw [hq, topP_snoc, hx])]
      have ht : tailP σ.stack = none := by unfold tailP; rw [if_pos (by rw [hq, hx]; simp)]
      rw [ht]
      exact RunOk.err hz ⟨d, hd⟩ (by rw [stepR_at hd, hf]; rfl)
    · have hf : foundP σ d = some (vw "}" d, { σ with stack := q }) := by
        unfold foundP endP; rw [ho, if_neg ff, he, if_neg ff, if_pos (by rw [hd1]; rfl), if_neg hne, if_neg (by rw [hq, topP_snoc]; exact hx), hq, List.dropLast_concat]
      have hs : stepR ds σ = some (vw "}" d, { σ with stack := q }) := by rw [stepR_at hd, hf]; rfl
      have hql : q.length = n := by rw [hq] at hn; simpa using hn
      have R := ih (σ := { σ with stack := q }) hd ho he ⟨by show q.length < 999; have := hz.1; rw [hq] at this; simp at this; omega, fun y hy => hz.2 y (by rw [hq]; exact List.mem_append_left _ hy)⟩ hql
      have := R.step hz hs rfl (show ("}" : Str).length ≤ 6 by decide)
      have ht : tailP σ.stack = (tailP q).map ([shownP (vw "}" d)] ++ ·) := by
        unfold tailP
        by_cases hm : (0 : Int) ∈ q
        · rw [if_pos (by rw [hq]; exact List.mem_append_left _ hm), if_pos hm]; rfl
        · rw [if_neg (by rw [hq]; simp [hm]; exact fun z => hx z.symm), if_neg hm, hq]
          simp only [List.length_append, List.length_singleton, List.replicate_succ, Option.map_some, List.singleton_append]
          rfl
      rw [ht]
      exact this
end

inductive Sim (ds : List WD) (σ : MS) : List Mark → Prop
  | openE (h1 : σ.opening = true) (h2 : σ.empty = false) (M : Match [] (ds.drop σ.at_)) : Sim ds σ [("{n}", 0)]
  | openR {t : Str} {c : Int} {f : Bool} {rs : List Row} (h1 : σ.opening = true) (h2 : σ.empty = false) (h3 : σ.aligned = false) (M : Match ((t, c, f) :: rs) (ds.drop σ.at_)) : Sim ds σ (("{n}", c) :: (t, c) :: mkTail (openers.any (· == t)) rs)
  | endA {l : List Mark} (h1 : σ.opening = false) (h2 : σ.empty = false) (M : Match [] (ds.drop σ.at_)) (hl : l = [] ∨ l = ([("<n>", 0)] : List Mark)) : Sim ds σ l
  | wordN {t : Str} {c : Int} {f : Bool} {rs : List Row} (h1 : σ.opening = false) (h2 : σ.empty = false) (h3 : σ.aligned = false) (h4 : f = true ∨ σ.forced = true) (M : Match ((t, c, f) :: rs) (ds.drop σ.at_)) : Sim ds σ (("<n>", c) :: (t, c) :: mkTail (openers.any (· == t)) rs)
  | wordD {t : Str} {c : Int} {f : Bool} {rs : List Row} (h1 : σ.opening = false) (h2 : σ.empty = false) (h3 : ¬ (σ.aligned = false ∧ (f = true ∨ σ.forced = true))) (M : Match ((t, c, f) :: rs) (ds.drop σ.at_)) : Sim ds σ ((t, c) :: mkTail (openers.any (· == t)) rs)
theorem drop_get {α : Type} {l : List α} {k : Nat} {d : α} {r : List α} (h : l.drop k = d :: r) : l[k]? = some d ∧ l.drop (k + 1) = r := by
  refine ⟨?_, ?_⟩
  · have := congrArg (fun x => x[0]?) h
    simpa using this
  · have := congrArg (List.drop 1) h
    simpa [List.drop_drop, Nat.add_comm] using this

theorem sim_tail {ds : List WD} {σ : MS} {rs : List Row} {o : Bool} (M : Match rs (ds.drop σ.at_)) (h2 : σ.empty = false) (h3 : σ.aligned = false) (h4 : σ.forced = false) (h5 : σ.opening = (o && nextOpen ds σ.at_)) : Sim ds σ (mkTail o rs) := by
  have ff : ¬ ((false : Bool) = true) := by decide
  generalize hx : ds.drop σ.at_ = x at M
  cases M with
  | @nil e e1 e2 e3 =>
    have hM : Match [] (ds.drop σ.at_) := by rw [hx]; exact .nil e1 e2 e3
    have hn : nextOpen ds σ.at_ = true := by
      unfold nextOpen
      rw [(drop_get hx).1]
      show (!isW e "special" "{") = true
      unfold isW; rw [e1]; rfl
    rw [hn, Bool.and_true] at h5
    cases o with
    | true => exact .openE h5 h2 hM
    | false => exact .endA h5 h2 hM (.inl rfl)
  | @cons t c f d rs' ds' hv e1 e2 e3 e4 e5 hc M' =>
    have hM : Match ((t, c, f) :: rs') (ds.drop σ.at_) := by rw [hx]; exact .cons hv e1 e2 e3 e4 e5 hc M'
    have hn : nextOpen ds σ.at_ = !(t == "{") := by
      unfold nextOpen
      rw [(drop_get hx).1]
      show (!isW d "special" "{") = _
      unfold isW; rw [e1, e2, V2 t hv]
    rw [hn] at h5
    rw [mkTail_cons]
    unfold preM
    cases ho : (o && !(t == "{")) with
    | true =>
      rw [ho] at h5
      rw [if_pos (show (o && t != "{") = true from ho)]
      exact .openR h5 h2 h3 hM
    | false =>
      rw [ho] at h5
      rw [if_neg (fun z => ff ((show (o && t != "{") = false from ho).symm.trans z))]
      cases f with
      | true => exact .wordN h5 h2 h3 (.inl rfl) hM
      | false => exact .wordD h5 h2 (by rw [h4]; simp) hM

theorem ls_n (c : Int) (rest : List Mark) (p : List Int) : laidStep ("<n>", c) rest p = (if 0 < topP p ∧ c < topP p then some ((["v}"] : List Str), (("<n>", c) : Mark) :: rest, p.dropLast) else some (if 0 < topP p ∧ c = topP p then ["v;"] else [], rest, p)) := by
  unfold laidStep; rw [if_pos (beq_self_eq_true _)]
theorem ls_o (c : Int) (rest : List Mark) (p : List Int) : laidStep ("{n}", c) rest p = (if topP p < c then some ((["v{"] : List Str), rest, p ++ [c]) else some ((["v{", "v}"] : List Str), (("<n>", c) : Mark) :: rest, p)) := by
  unfold laidStep; rw [if_neg (show ¬ ((("{n}" : Str) == "<n>") = true) by decide), if_pos (beq_self_eq_true _)]
theorem ls_w {t : Str} (ht : t ∈ vocab) (c : Int) (rest : List Mark) (p : List Int) : laidStep (t, c) rest p = (if t == "{" then some ((["{"] : List Str), rest, p ++ [0]) else if t == "}" then (if p = [] ∨ topP p ≠ 0 then none else some ((["}"] : List Str), rest, p.dropLast)) else some (([t] : List Str), rest, p)) := by
  have ff : ¬ ((false : Bool) = true) := by decide
  unfold laidStep; rw [if_neg (fun z => ff ((V5 t ht).1.symm.trans z)), if_neg (fun z => ff ((V5 t ht).2.symm.trans z))]
section
variable {ds : List WD} {σ : MS} {d : WD} {t : Str}
theorem real_found (h1 : σ.opening = false) (h2 : σ.empty = false) (hk : (d.kind == "end") = false) (h3 : ¬ (σ.aligned = false ∧ (d.first = true ∨ σ.forced = true))) : foundP σ d = some (d, σ) := by
  have ff : ¬ ((false : Bool) = true) := by decide
  unfold foundP; rw [h1, if_neg ff, h2, if_neg ff, hk, if_neg ff, if_neg h3]
theorem align_found (h1 : σ.opening = false) (h2 : σ.empty = false) (hk : (d.kind == "end") = false) (h3 : σ.aligned = false ∧ (d.first = true ∨ σ.forced = true)) : foundP σ d = some (alignP σ d) := by
  have ff : ¬ ((false : Bool) = true) := by decide
  unfold foundP; rw [h1, if_neg ff, h2, if_neg ff, hk, if_neg ff, if_pos h3]
theorem real_next (hv : t ∈ vocab) (e1 : d.kind = wkind t) (e2 : d.text = t) (e5 : d.v = false) : nextP ds σ d = if ((t == "}") && (decide (σ.stack = []) || decide (topP σ.stack ≠ 0))) = true then none else some (d, passP ds σ d) := by
  have ff : ¬ ((false : Bool) = true) := by decide
  have h1 : isV d = false := by unfold isV; rw [e5, Bool.and_false]
  have h2 : badP σ d = ((t == "}") && (decide (σ.stack = []) || decide (topP σ.stack ≠ 0))) := by unfold badP isW; rw [e1, e2, V3 t hv]
  have h3 : (d.kind == "end") = false := by rw [e1]; exact V1 t hv
  unfold nextP
  rw [h1, if_neg ff, h2, h3, if_neg ff]
theorem real_pass (hv : t ∈ vocab) (e1 : d.kind = wkind t) (e2 : d.text = t) (h1 : σ.opening = false) : passP ds σ d = ⟨σ.at_ + 1, if (t == "{") = true then σ.stack ++ [0] else if (t == "}") = true then σ.stack.dropLast else σ.stack, openers.any (· == t) && nextOpen ds (σ.at_ + 1), σ.empty, false, false⟩ := by
  have ff : ¬ ((false : Bool) = true) := by decide
  have a1 : isW d "special" "{" = (t == "{") := by unfold isW; rw [e1, e2, V2 t hv]
  have a2 : isW d "special" "}" = (t == "}") := by unfold isW; rw [e1, e2, V3 t hv]
  have a3 : (d.kind == "key" && openers.any (· == d.text)) = openers.any (· == t) := by rw [e1, e2, V4 t hv]
  unfold passP
  rw [a1, a2, a3]
  obtain ⟨v1, v2, v3⟩ := V7 t hv
  cases hb : (t == "{") with
  | true => rw [v1 hb, if_pos rfl, if_pos rfl, h1]; rfl
  | false =>
    rw [if_neg ff, if_neg ff]
    cases hc : (t == "}") with
    | true => rw [v2 hc, if_pos rfl, if_pos rfl, h1]; rfl
    | false =>
      rw [if_neg ff, if_neg ff]
      cases ho : openers.any (· == t) with
      | true => rw [if_pos rfl, Bool.true_and]
      | false => rw [if_neg ff, h1]; rfl
theorem real_shown (e2 : d.text = t) (e5 : d.v = false) : shownP d = t := by
  have h1 : isV d = false := by unfold isV; rw [e5, Bool.and_false]
  unfold shownP
  rw [h1, e2]
  refine str_ext_list ?_
  rw [app_cps]
  rfl
end
section
variable {ds : List WD}
theorem sim_run {k : Nat} {left : List Mark} {p : List Int} {r : Option (List Str)} (L : Laid k left p r) : ∀ σ : MS, Sim ds σ left → σ.stack = p → (∀ x ∈ p, 0 ≤ x) → p.length + k ≤ 900 → RunOk ds (3 * k + p.length) σ r := by
  have ff : ¬ ((false : Bool) = true) := by decide
  have tpos : ∀ q : List Int, (∀ x ∈ q, 0 ≤ x) → 0 ≤ topP q := fun q hq => by
    unfold topP
    cases h : q.getLast? with
    | none => exact Int.le_refl _
    | some t => exact hq t (List.mem_of_getLast? h)
  induction L with
  | @fin p =>
    intro σ S hp hn hb
    cases S with
    | endA h1 h2 M hl =>
      generalize hx : ds.drop σ.at_ = x at M
      cases M with
      | nil e1 e2 e3 =>
        have R := tail_run (ds := ds) (σ := σ) e1 e2 e3 (drop_get hx).1 h1 h2 ⟨by rw [hp]; omega, by rw [hp]; exact hn⟩
        rw [hp] at R
        exact R.mono (by omega)
  | @err x rest p h =>
    intro σ S hp hn hb
    have hz : SOk σ := ⟨by rw [hp]; omega, by rw [hp]; exact hn⟩
    cases S with
    | openE => rw [ls_o] at h; split at h <;> cases h
    | openR => rw [ls_o] at h; split at h <;> cases h
    | endA h1 h2 M hl =>
      rcases hl with hl | hl
      · cases hl
      · cases hl; rw [ls_n] at h; split at h <;> cases h
    | wordN => rw [ls_n] at h; split at h <;> cases h
    | wordD h1 h2 h3 M =>
      generalize hx : ds.drop σ.at_ = y at M
      cases M with
      | cons hv e1 e2 e3 e4 e5 hc M' =>
        rename_i t c f rs d ds'
        rw [ls_w hv] at h
        have hk : (d.kind == "end") = false := by rw [e1]; exact V1 t hv
        cases hb : (t == "{") with
        | true => rw [hb, if_pos rfl] at h; cases h
        | false =>
          rw [hb, if_neg ff] at h
          cases hcl : (t == "}") with
          | false => rw [hcl, if_neg ff] at h; cases h
          | true =>
            rw [hcl, if_pos rfl] at h
            by_cases hq : p = [] ∨ topP p ≠ 0
            · refine RunOk.err hz ⟨d, (drop_get hx).1⟩ ?_
              rw [stepR_at (drop_get hx).1, real_found h1 h2 hk (by rw [e4]; exact h3)]
              show nextP ds σ d = none
              rw [real_next hv e1 e2 e5, hcl, if_pos]
              rw [hp]
              rcases hq with hq | hq
              · rw [hq]; rfl
              · rw [decide_eq_true hq]; simp
            · rw [if_neg hq] at h; cases h
  | @step k x rest l' p p' o r h L ih =>
    intro σ S hp hn hb
    have hz : SOk σ := ⟨by rw [hp]; omega, by rw [hp]; exact hn⟩
    have htop := tpos p hn
    cases S with
    | openE h1 h2 M =>
      rw [ls_o, if_neg (by omega)] at h
      cases h
      generalize hx : ds.drop σ.at_ = y at M
      cases M with
      | @nil e e1 e2 e3 =>
        have hd := (drop_get hx).1
        have hs1 : stepR ds σ = some (vw "{" e, { σ with opening := false, empty := true }) := by
          rw [stepR_at hd]
          have : foundP σ e = some (vw "{" e, { σ with opening := false, empty := true }) := by
            unfold foundP openP; rw [if_pos h1, if_neg (by unfold colP; rw [e1, hp, if_pos (beq_self_eq_true _)]; omega)]
          rw [this]; rfl
        have hs2 : stepR ds { σ with opening := false, empty := true } = some (vw "}" e, { σ with opening := false, empty := false, forced := true }) := by
          rw [stepR_at (σ := { σ with opening := false, empty := true }) hd]; rfl
        have R := ih { σ with opening := false, empty := false, forced := true } (.endA rfl rfl (by show Match [] (ds.drop σ.at_); rw [hx]; exact .nil e1 e2 e3) (.inr rfl)) hp hn (by omega)
        have R2 := (R.step (σ := { σ with opening := false, empty := true }) hz hs2 rfl (show ("}" : Str).length ≤ 6 by decide)).step hz hs1 rfl (show ("{" : Str).length ≤ 6 by decide)
        have e : (r.map ([shownP (vw "}" e)] ++ ·)).map ([shownP (vw "{" e)] ++ ·) = r.map ((["v{", "v}"] : List Str) ++ ·) := by cases r <;> rfl
        rw [e] at R2
        exact R2.mono (by omega)
    | openR h1 h2 h3 M =>
      rw [ls_o] at h
      generalize hx : ds.drop σ.at_ = y at M
      cases M with
      | cons hv e1 e2 e3 e4 e5 hc M' =>
        rename_i t c f rs d ds'
        have hM : Match ((t, c, f) :: rs) (ds.drop σ.at_) := by rw [hx]; exact .cons hv e1 e2 e3 e4 e5 hc M'
        have hd := (drop_get hx).1
        have hcol : colP d = c := by unfold colP; rw [e1, V1 t hv, if_neg ff, e3]
        by_cases hlt : topP p < c
        · rw [if_pos hlt] at h
          cases h
          have hs1 : stepR ds σ = some (vw "{" d, { σ with opening := false, stack := σ.stack ++ [c], aligned := true }) := by
            rw [stepR_at hd]
            have : foundP σ d = some (vw "{" d, { σ with opening := false, stack := σ.stack ++ [c], aligned := true }) := by
              unfold foundP openP; rw [if_pos h1, if_pos (by rw [hcol, hp]; exact hlt), e3]
            rw [this]; rfl
          have R := ih { σ with opening := false, stack := σ.stack ++ [c], aligned := true } (.wordD (f := f) rfl h2 (by simp) hM) (by rw [hp]) (fun x hx => by rcases List.mem_append.mp hx with hx | hx; exact hn x hx; rw [List.mem_singleton.mp hx]; exact hc) (by simp; omega)
          have R2 := R.step hz hs1 rfl (show ("{" : Str).length ≤ 6 by decide)
          have e : r.map ([shownP (vw "{" d)] ++ ·) = r.map ((["v{"] : List Str) ++ ·) := by cases r <;> rfl
          rw [e] at R2
          exact R2.mono (by simp; omega)
        · rw [if_neg hlt] at h
          cases h
          have hs1 : stepR ds σ = some (vw "{" d, { σ with opening := false, empty := true }) := by
            rw [stepR_at hd]
            have : foundP σ d = some (vw "{" d, { σ with opening := false, empty := true }) := by
              unfold foundP openP; rw [if_pos h1, if_neg (by rw [hcol, hp]; exact hlt)]
            rw [this]; rfl
          have hs2 : stepR ds { σ with opening := false, empty := true } = some (vw "}" d, { σ with opening := false, empty := false, forced := true }) := by
            rw [stepR_at (σ := { σ with opening := false, empty := true }) hd]; rfl
          have R := ih { σ with opening := false, empty := false, forced := true } (.wordN (f := f) rfl rfl h3 (.inr rfl) hM) hp hn (by omega)
          have R2 := (R.step (σ := { σ with opening := false, empty := true }) hz hs2 rfl (show ("}" : Str).length ≤ 6 by decide)).step hz hs1 rfl (show ("{" : Str).length ≤ 6 by decide)
          have e : (r.map ([shownP (vw "}" d)] ++ ·)).map ([shownP (vw "{" d)] ++ ·) = r.map ((["v{", "v}"] : List Str) ++ ·) := by cases r <;> rfl
          rw [e] at R2
          exact R2.mono (by omega)
    | endA h1 h2 M hl =>
      rcases hl with hl | hl
      · cases hl
      · cases hl
        rw [ls_n] at h
        by_cases hlt : 0 < topP p
        · rw [if_pos ⟨hlt, hlt⟩] at h
          cases h
          generalize hx : ds.drop σ.at_ = y at M
          cases M with
          | @nil e e1 e2 e3 =>
            have hd := (drop_get hx).1
            have hne : p ≠ [] := by intro z; rw [z] at hlt; exact absurd hlt (by decide)
            have hs1 : stepR ds σ = some (vw "}" e, { σ with stack := p.dropLast }) := by
              rw [stepR_at hd]
              have : foundP σ e = some (vw "}" e, { σ with stack := p.dropLast }) := by
                unfold foundP endP; rw [h1, if_neg ff, h2, if_neg ff, if_pos (by rw [e1]; rfl), if_neg (by rw [hp]; exact hne), if_neg (by rw [hp]; omega), hp]
              rw [this]; rfl
            have R := ih { σ with stack := p.dropLast } (.endA h1 h2 (by show Match [] (ds.drop σ.at_); rw [hx]; exact .nil e1 e2 e3) (.inr rfl)) rfl (fun x hx => hn x ((List.dropLast_sublist p).subset hx)) (by simp; omega)
            have R2 := R.step hz hs1 rfl (show ("}" : Str).length ≤ 6 by decide)
            have e : r.map ([shownP (vw "}" e)] ++ ·) = r.map ((["v}"] : List Str) ++ ·) := by cases r <;> rfl
            rw [e] at R2
            exact R2.mono (by simp; omega)
        · rw [if_neg (by omega), if_neg (by omega)] at h
          cases h
          have R := ih σ (.endA h1 h2 M (.inl rfl)) hp hn (by omega)
          have e : r.map (([] : List Str) ++ ·) = r := by cases r <;> rfl
          rw [e]
          exact R.mono (by omega)
    | wordN h1 h2 h3 h4 M =>
      rw [ls_n] at h
      generalize hx : ds.drop σ.at_ = y at M
      cases M with
      | cons hv e1 e2 e3 e4 e5 hc M' =>
        rename_i t c f rs d ds'
        have hM : Match ((t, c, f) :: rs) (ds.drop σ.at_) := by rw [hx]; exact .cons hv e1 e2 e3 e4 e5 hc M'
        have hd := (drop_get hx).1
        have hk : (d.kind == "end") = false := by rw [e1]; exact V1 t hv
        have hf := align_found h1 h2 hk (by rw [e4]; exact ⟨h3, h4⟩)
        unfold alignP at hf
        rw [hp, e3] at hf
        by_cases hlt : 0 < topP p ∧ c < topP p
        · rw [if_pos hlt] at h
          cases h
          rw [if_pos ⟨by omega, hlt.2⟩] at hf
          have hs1 : stepR ds σ = some (vw "}" d, { σ with stack := p.dropLast }) := by rw [stepR_at hd, hf]; rfl
          have R := ih { σ with stack := p.dropLast } (.wordN (f := f) h1 h2 h3 h4 hM) rfl (fun x hx => hn x ((List.dropLast_sublist p).subset hx)) (by simp; omega)
          have R2 := R.step hz hs1 rfl (show ("}" : Str).length ≤ 6 by decide)
          have e : r.map ([shownP (vw "}" d)] ++ ·) = r.map ((["v}"] : List Str) ++ ·) := by cases r <;> rfl
          rw [e] at R2
          exact R2.mono (by simp; omega)
        · rw [if_neg hlt] at h
          rw [if_neg (by omega)] at hf
          have nal : ¬ (({ σ with aligned := true } : MS).aligned = false ∧ (f = true ∨ σ.forced = true)) := by simp
          by_cases heq : 0 < topP p ∧ c = topP p
          · rw [if_pos heq] at h
            cases h
            rw [if_pos ⟨by omega, heq.2⟩] at hf
            have hs1 : stepR ds σ = some (vw ";" d, { σ with aligned := true }) := by rw [stepR_at hd, hf, ← hp]; rfl
            have R := ih { σ with aligned := true } (.wordD (f := f) h1 h2 nal hM) hp hn (by omega)
            have R2 := R.step hz hs1 rfl (show (";" : Str).length ≤ 6 by decide)
            have e : r.map ([shownP (vw ";" d)] ++ ·) = r.map ((["v;"] : List Str) ++ ·) := by cases r <;> rfl
            rw [e] at R2
            exact R2.mono (by omega)
          · rw [if_neg heq] at h
            cases h
            rw [if_neg (by omega)] at hf
            have R := ih { σ with aligned := true } (.wordD (f := f) h1 h2 nal hM) hp hn (by omega)
            have e : r.map (([] : List Str) ++ ·) = r := by cases r <;> rfl
            rw [e]
            refine (RunOk.congr hz ⟨d, hd⟩ ?_ R).mono (by omega)
            rw [stepR_at hd, stepR_at (σ := { σ with aligned := true }) hd, hf, real_found (σ := { σ with aligned := true }) h1 h2 hk (by simp), ← hp]
    | wordD h1 h2 h3 M =>
      generalize hx : ds.drop σ.at_ = y at M
      cases M with
      | cons hv e1 e2 e3 e4 e5 hc M' =>
        rename_i t c f rs d ds'
        rw [ls_w hv] at h
        have hd := (drop_get hx).1
        have hk : (d.kind == "end") = false := by rw [e1]; exact V1 t hv
        have hf := real_found h1 h2 hk (by rw [e4]; exact h3)
        have hM' : Match rs (ds.drop (σ.at_ + 1)) := by rw [(drop_get hx).2]; exact M'
        have hpass := real_pass (ds := ds) hv e1 e2 h1
        have hsh := real_shown e2 e5
        have htl : d.text.length ≤ 6 := by rw [e2]; exact vocab_len t hv
        have main : ∀ p2, p' = p2 → passP ds σ d = ⟨σ.at_ + 1, p2, openers.any (· == t) && nextOpen ds (σ.at_ + 1), σ.empty, false, false⟩ → l' = mkTail (openers.any (· == t)) rs → o = [t] → ((t == "}") && (decide (σ.stack = []) || decide (topP σ.stack ≠ 0))) = false → (∀ x ∈ p2, 0 ≤ x) → p2.length ≤ p.length + 1 → RunOk ds (3 * (k + 1) + p.length) σ (r.map (o ++ ·)) := by
          intro p2 hp2 hps hl' ho hbad hn2 hlen
          subst hp2; subst hl'; subst ho
          have hs1 : stepR ds σ = some (d, ⟨σ.at_ + 1, p', openers.any (· == t) && nextOpen ds (σ.at_ + 1), σ.empty, false, false⟩) := by
            rw [stepR_at hd, hf]
            show nextP ds σ d = _
            rw [real_next hv e1 e2 e5, hbad, if_neg ff, hps]
          have S2 : Sim ds (⟨σ.at_ + 1, p', openers.any (· == t) && nextOpen ds (σ.at_ + 1), σ.empty, false, false⟩ : MS) (mkTail (openers.any (· == t)) rs) := sim_tail hM' h2 rfl rfl rfl
          have R := ih _ S2 rfl hn2 (by omega)
          have R2 := R.step hz hs1 hk htl
          rw [hsh] at R2
          exact R2.mono (by omega)
        cases hb' : (t == "{") with
        | true =>
          have v3 := (V7 t hv).2.2 hb'
          rw [hb', if_pos rfl] at h
          cases h
          refine main (p ++ [0]) rfl (by rw [hpass, hb', if_pos rfl, hp]) rfl (by rw [eq_of_beq hb']) (by rw [v3]; rfl) (fun x hx => by rcases List.mem_append.mp hx with hx | hx; exact hn x hx; rw [List.mem_singleton.mp hx]; exact Int.le_refl _) (by simp)
        | false =>
          rw [hb', if_neg ff] at h
          cases hcl : (t == "}") with
          | true =>
            rw [hcl, if_pos rfl] at h
            by_cases hq : p = [] ∨ topP p ≠ 0
            · rw [if_pos hq] at h; cases h
            · rw [if_neg hq] at h
              cases h
              have q1 : p ≠ [] := fun z => hq (.inl z)
              have q2 : topP p = 0 := Classical.byContradiction fun z => hq (.inr z)
              refine main p.dropLast rfl (by rw [hpass, hb', if_neg ff, hcl, if_pos rfl, hp]) rfl (by rw [eq_of_beq hcl]) (by rw [hp, q2]; simp [q1]) (fun x hx => hn x ((List.dropLast_sublist p).subset hx)) (by simp; omega)
          | false =>
            rw [hcl, if_neg ff] at h
            cases h
            refine main p rfl (by rw [hpass, hb', if_neg ff, hcl, if_neg ff, hp]) rfl rfl (by rw [hcl]; rfl) hn (by omega)
end

noncomputable def wt1 (x : Mark) : Nat := if x.1 == "<n>" then 1 else if x.1 == "{n}" then 3 else 2
noncomputable def wt : List Mark → Nat
  | [] => 0
  | x :: r => wt1 x + wt r
theorem wt1_pos (x : Mark) : 1 ≤ wt1 x ∧ wt1 x ≤ 3 := by unfold wt1; split <;> (try split) <;> omega
theorem wt_le : ∀ l : List Mark, wt l ≤ 3 * l.length
  | [] => by simp [wt]
  | x :: r => by
    have := wt_le r
    have := (wt1_pos x).2
    simp only [wt, List.length_cons]
    omega
theorem top_ne {p : List Int} (h : 0 < topP p) : 0 < p.length := by
  cases p with
  | nil => exact absurd h (by decide)
  | cons _ _ => simp
theorem laidStep_wt {x : Mark} {rest l' : List Mark} {p p' : List Int} {o : List Str} (h : laidStep x rest p = some (o, l', p')) : wt l' + p'.length < wt (x :: rest) + p.length := by
  unfold laidStep at h
  show wt l' + p'.length < wt1 x + wt rest + p.length
  unfold wt1
  cases h1 : x.1 == "<n>" with
  | true =>
    rw [h1, if_pos rfl] at h
    by_cases hc : 0 < topP p ∧ x.2 < topP p
    · rw [if_pos hc] at h
      cases h
      have := top_ne hc.1
      simp only [wt, wt1, h1, List.length_dropLast, if_pos]
      omega
    · rw [if_neg hc] at h
      cases h
      simp only [if_pos]
      omega
  | false =>
    have ff : ¬ ((false : Bool) = true) := by decide
    rw [h1, if_neg ff] at h
    rw [if_neg ff]
    cases h2 : x.1 == "{n}" with
    | true =>
      rw [h2, if_pos rfl] at h
      rw [if_pos rfl]
      by_cases hc : topP p < x.2
      · rw [if_pos hc] at h
        cases h
        simp only [List.length_append, List.length_singleton]
        omega
      · rw [if_neg hc] at h
        cases h
        have : wt1 ("<n>", x.2) = 1 := by unfold wt1; rw [if_pos (beq_self_eq_true _)]
        simp only [wt, this]
        omega
    | false =>
      rw [h2, if_neg ff] at h
      rw [if_neg ff]
      split at h
      · cases h
        simp only [List.length_append, List.length_singleton]
        omega
      · split at h
        · split at h
          · cases h
          · cases h
            simp only [List.length_dropLast]
            omega
        · cases h
          omega
theorem laid_ex : ∀ (n : Nat) (left : List Mark) (p : List Int), wt left + p.length ≤ n → ∃ k r, Laid k left p r ∧ k ≤ n
  | n, [], p, _ => ⟨0, _, .fin, Nat.zero_le _⟩
  | 0, x :: rest, p, h => by
    have := (wt1_pos x).1
    simp only [wt] at h
    omega
  | n + 1, x :: rest, p, h => by
    cases hs : laidStep x rest p with
    | none => exact ⟨0, _, .err hs, Nat.zero_le _⟩
    | some y =>
      obtain ⟨o, l', p'⟩ := y
      have := laidStep_wt hs
      obtain ⟨k, r, L, hk⟩ := laid_ex n l' p' (by omega)
      exact ⟨k + 1, _, .step hs L, by omega⟩

theorem Match.length {rs : List Row} {ds : List WD} (M : Match rs ds) : ds.length = rs.length + 1 := by
  induction M with
  | nil => rfl
  | cons _ _ _ _ _ _ _ _ ih => simp [ih]
theorem Match.nv {rs : List Row} {ds : List WD} (M : Match rs ds) : ∀ d ∈ ds, d.v = false := by
  induction M with
  | nil h1 h2 h3 => intro d hd; rw [List.mem_singleton.mp hd]; exact h2
  | cons _ _ _ _ _ h5 _ _ ih =>
    intro d hd
    rcases List.mem_cons.mp hd with rfl | hd
    · exact h5
    · exact ih d hd
theorem Match.nx {rs : List Row} {ds : List WD} (M : Match rs ds) : ∀ (i : Nat) d, ds[i]? = some d → d.kind ≠ "end" → ∃ dn, ds[i + 1]? = some dn := by
  induction M with
  | nil h1 h2 h3 =>
    intro i d e hk
    cases i with
    | zero => simp at e; subst e; exact absurd h1 hk
    | succ i => simp at e
  | cons _ _ _ _ _ _ _ M' ih =>
    intro i d e hk
    cases i with
    | zero =>
      obtain ⟨d', r', hr⟩ := M'.head
      exact ⟨d', by rw [hr]; rfl⟩
    | succ i =>
      rw [List.getElem?_cons_succ] at e ⊢
      exact ih i d e hk
theorem VS : ∀ t ∈ (("" : Str) :: vocab), (Txt.slice t none (some 1) != "v") = true := by decide +kernel
theorem Match.sv {rs : List Row} {ds : List WD} (M : Match rs ds) : ∀ d ∈ ds, (Txt.slice (shownP d) none (some 1) != "v") = true := by
  induction M with
  | nil h1 h2 h3 =>
    intro d hd
    rw [List.mem_singleton.mp hd, real_shown h3 h2]
    exact VS _ List.mem_cons_self
  | cons hv h1 h2 h3 h4 h5 hc M' ih =>
    intro d hd
    rcases List.mem_cons.mp hd with rfl | hd
    · rw [real_shown h2 h5]; exact VS _ (List.mem_cons_of_mem _ hv)
    · exact ih d hd
theorem sim_init {rs : List Row} {ds : List WD} {d : WD} (M : Match rs ds) (hd : ds[0]? = some d) : Sim ds (initP d) (mkTail (open0 rs) rs) := by
  have ff : ¬ ((false : Bool) = true) := by decide
  have hM : Match rs (ds.drop (initP d).at_) := by show Match rs (ds.drop 0); rw [List.drop_zero]; exact M
  cases M with
  | @nil e e1 e2 e3 =>
    cases hd
    have ho : (initP d).opening = true := by show (!isW d "special" "{" && !isW d "key" "module") = true; unfold isW; rw [e1]; rfl
    exact .openE ho rfl hM
  | @cons t c f d' rs' ds' hv e1 e2 e3 e4 e5 hc M' =>
    cases hd
    have ho : (initP d).opening = (!(t == "{") && !(t == "module")) := by
      show (!isW d "special" "{" && !isW d "key" "module") = _
      unfold isW; rw [e1, e2, V2 t hv, V6 t hv]
    have h0 : open0 ((t, c, f) :: rs') = (!(t == "module") && !(t == "{")) := by
      show (!(["module", "{"] : List Str).any (· == t)) = _
      simp only [List.any_cons, List.any_nil, Bool.or_false, Bool.not_or]
      rw [str_beq_comm "module" t, str_beq_comm "{" t]
    rw [mkTail_cons]
    unfold preM
    cases hb : (t == "{") with
    | true =>
      rw [hb] at ho
      rw [if_neg (by rw [h0, hb]; simp)]
      cases f with
      | true => exact .wordN ho rfl rfl (.inl rfl) hM
      | false => exact .wordD ho rfl (by show ¬ (false = false ∧ (false = true ∨ false = true)); simp) hM
    | false =>
      cases hm : (t == "module") with
      | true =>
        rw [hb, hm] at ho
        rw [if_neg (by rw [h0, hm]; simp)]
        cases f with
        | true => exact .wordN ho rfl rfl (.inl rfl) hM
        | false => exact .wordD ho rfl (by show ¬ (false = false ∧ (false = true ∨ false = true)); simp) hM
      | false =>
        rw [hb, hm] at ho
        rw [if_pos (by rw [h0, hb, hm]; show (true && t != "{") = true; rw [bne, hb]; rfl)]
        exact .openR ho rfl rfl hM

theorem plain_of {lns : List (Int × List Str)} (g : GoodL lns) {all : List WD} (hL : Lx (textOf lns) 0 1 1 true all) (M : Match (rowsOf lns) all) : PlainOk lns := by
  obtain ⟨d, r, hr⟩ := M.head
  have hd : all[0]? = some d := by rw [hr]; rfl
  have hr3 : (rowsOf lns).length ≤ 21 := by
    have h1 := rows_le (lns := lns) fun x hx => (g.2 x hx).2.2.2.1
    have h2 := g.1
    omega
  have hm : (marksOf (rowsOf lns)).length ≤ 43 := by
    have := marksP_le (rowsOf lns) (open0 (rowsOf lns))
    unfold marksOf
    rw [List.length_append]
    split <;> simp <;> omega
  have hw := wt_le (marksOf (rowsOf lns))
  obtain ⟨k1, sts, L, hk1⟩ := laid_ex 129 (marksOf (rowsOf lns)) [] (by simp; omega)
  obtain ⟨k0, res, R, hk0, hst, hb⟩ := sim_run L (initP d) (sim_init M hd) rfl (by simp) (by simp; omega)
  have hal := M.length
  simp only [List.length_nil, Nat.add_zero] at hk0 hb
  exact ⟨all, d, k0, res, k1, sts, hL, by omega, ⟨by omega, M.nv, M.nx⟩, hd, R, by omega, L, by omega, by omega, hst, fun outs ho => ⟨by have := (hb outs ho).2.1; omega, fun d hd => by have := (hb outs ho).2.2 d hd; omega⟩, M.sv⟩

noncomputable abbrev cl (x : Str) : List Nat := x.cps.toList
theorem cl_len (x : Str) : (cl x).length = x.length := (str_len x).symm
theorem sg_some {T : Str} {k x : Nat} (h : (cl T)[k]? = some x) : sg T k = ⟨#[x]⟩ := by
  obtain ⟨hk, hx⟩ := List.getElem?_eq_some_iff.mp h
  have hl : k < T.length := by rw [← cl_len]; exact hk
  unfold sg
  rw [if_pos hl]
  unfold Txt.item Txt.charAt
  rw [seqIndex_nat rfl hl, Option.bind_some]
  have : T.cps[k]? = some x := by rw [← Array.getElem?_toList]; exact h
  rw [this]; rfl
theorem sg_none {T : Str} {k : Nat} (h : (cl T)[k]? = none) : sg T k = "" := by
  have hl : ¬ k < T.length := by rw [← cl_len]; have := List.getElem?_eq_none_iff.mp h; omega
  unfold sg
  rw [if_neg hl]
theorem drop_at {T : Str} {a : Nat} {l : List Nat} (h : (cl T).drop a = l) (i : Nat) : (cl T)[a + i]? = l[i]? := by
  rw [← h, List.getElem?_drop]
theorem drop_more {T : Str} {a : Nat} {p q : List Nat} (h : (cl T).drop a = p ++ q) : (cl T).drop (a + p.length) = q := by
  rw [← List.drop_drop, h, List.drop_left]
theorem str_eq_of {x : Str} {l : List Nat} (h : cl x = l) : x = ⟨l.toArray⟩ := str_ext_list (by simpa using h)


noncomputable def spc (t : Str) : Bool := t == "{" || t == "}" || t == ";"
theorem W1 : ∀ t ∈ vocab, spc t = true → ((cl t).length = 1 ∧ t ≠ "" ∧ t ≠ "\t" ∧ t ≠ "\n" ∧ Txt.contains spcl t = true ∧ Txt.contains wsp t = false) := by decide +kernel
theorem W2 : ∀ t ∈ vocab, spc t = false → ∀ x ∈ cl t, (⟨#[x]⟩ : Str) ≠ "" ∧ Txt.contains nameLetters ⟨#[x]⟩ = true ∧ (⟨#[x]⟩ : Str) ≠ "\t" ∧ (⟨#[x]⟩ : Str) ≠ "\n" ∧ Txt.contains spcl ⟨#[x]⟩ = false ∧ Txt.contains "0123456789" ⟨#[x]⟩ = false ∧ Txt.contains "abcdefghijklmnopqrstuvwxyz_" ⟨#[x]⟩ = true ∧ Txt.contains wsp ⟨#[x]⟩ = false := by decide +kernel
theorem W3 : ∀ t ∈ vocab, cl t ≠ [] ∧ ∀ x ∈ cl t, x ≠ 45 := by decide +kernel
theorem W4 : ∀ t ∈ vocab, spc t = true → wkind t = "special" := by decide
theorem W5 : ∀ t ∈ vocab, spc t = false → wkind t = (if keys.any (· == t) then ("key" : Str) else ("var" : Str)) := by decide
theorem N1 : Txt.contains nameLetters " " = false := by decide +kernel
theorem N2 : Txt.contains nameLetters "\n" = false := by decide +kernel

noncomputable def NoDash (T : Str) : Prop := ∀ x ∈ cl T, x ≠ 45
theorem no_slice {T : Str} (h : NoDash T) (a : Nat) : (Txt.slice T (some (a : Int)) (some ((a : Int) + 2)) == "--") = false ∧ (Txt.slice T (some (a : Int)) (some ((a : Int) + 2)) == "{-") = false := by
  have e : ((a : Int) + 2) = ((a + 2 : Nat) : Int) := by omega
  have key : ∀ y : Str, 45 ∈ cl y → (Txt.slice T (some (a : Int)) (some ((a : Int) + 2)) == y) = false := by
    intro y hy
    refine beq_eq_false_iff_ne.mpr fun z => ?_
    rw [← z] at hy
    have : 45 ∈ cl T := by
      have h2 := slice_cps T a (a + 2)
      rw [e] at hy
      unfold cl at hy
      rw [h2] at hy
      exact List.mem_of_mem_take (List.mem_of_mem_drop hy)
    exact h 45 this rfl
  exact ⟨key _ (by decide), key _ (by decide)⟩


noncomputable def Sep (rest : List Nat) : Prop := rest = [] ∨ ∃ x r, rest = x :: r ∧ (x = 32 ∨ x = 10)
theorem word_at {T t : Str} {b : Nat} {rest : List Nat} (hd : NoDash T) (hb : b + t.length ≤ 90000) (ht : t ∈ vocab) (h : (cl T).drop b = cl t ++ rest) (hs : Sep rest) : Rd T b (wkind t) t t.length ∧ (sg T b = "" ∨ Txt.contains wsp (sg T b) = false) ∧ (cl T).drop (b + t.length) = rest := by
  have hl : t.length = (cl t).length := (cl_len t).symm
  have hnext : (cl T).drop (b + t.length) = rest := by rw [hl]; exact drop_more h
  have hget : ∀ i x, (cl t)[i]? = some x → sg T (b + i) = ⟨#[x]⟩ := fun i x hx => by
    refine sg_some ?_
    rw [drop_at h, List.getElem?_append_left (List.getElem?_eq_some_iff.mp hx).1]
    exact hx
  have hne := (W3 t ht).1
  obtain ⟨x0, r0, hx0⟩ : ∃ x r, cl t = x :: r := by cases q : cl t with | nil => exact absurd q hne | cons x r => exact ⟨x, r, rfl⟩
  have h0 : sg T b = ⟨#[x0]⟩ := by have := hget 0 x0 (by rw [hx0]; rfl); simpa using this
  cases hsp : spc t with
  | true =>
    obtain ⟨w1, w2, w3, w4, w5, w6⟩ := W1 t ht hsp
    have hr0 : r0 = [] := by rw [hx0] at w1; simpa using w1
    have hT : sg T b = t := by rw [h0]; exact (str_eq_of (by rw [hx0, hr0])).symm
    have hl1 : t.length = 1 := by rw [hl]; exact w1
    refine ⟨?_, .inr (by rw [hT]; exact w6), hnext⟩
    rw [W4 t ht hsp, hl1]
    have := Rd.special (T := T) (b := b) (by rw [hT]; exact w2) (by rw [hT]; exact w3) (by rw [hT]; exact w4) (by rw [hT]; exact w5)
    rw [hT] at this
    exact this
  | false =>
    have W := W2 t ht hsp
    obtain ⟨w1, w2, w3, w4, w5, w6, w7, w8⟩ := W x0 (by rw [hx0]; exact List.mem_cons_self)
    refine ⟨?_, .inr (by rw [h0]; exact w8), hnext⟩
    have hsl : Txt.slice T (some (b : Int)) (some ((b + t.length : Nat) : Int)) = t := by
      refine str_ext_list ?_
      rw [slice_cps]
      show ((cl T).take (b + t.length)).drop b = cl t
      rw [List.drop_take, h, hl]
      have : b + (cl t).length - b = (cl t).length := by omega
      rw [this, List.take_left]
    have g1 : ∀ x < t.length, sg T (b + x) ≠ "" ∧ Txt.contains nameLetters (sg T (b + x)) = true ∧ sg T (b + x) ≠ "\t" ∧ sg T (b + x) ≠ "\n" := by
      intro i hi
      rw [hl] at hi
      have hg := hget i _ (List.getElem?_eq_getElem hi)
      have Wi := W _ (List.getElem_mem hi)
      rw [hg]
      exact ⟨Wi.1, Wi.2.1, Wi.2.2.1, Wi.2.2.2.1⟩
    have g2 : sg T (b + t.length) = "" ∨ Txt.contains nameLetters (sg T (b + t.length)) = false := by
      rcases hs with rfl | ⟨x, r, rfl, hx⟩
      · left
        refine sg_none ?_
        have := drop_at hnext 0
        simpa using this
      · right
        have : sg T (b + t.length) = ⟨#[x]⟩ := sg_some (by have := drop_at hnext 0; simpa using this)
        rw [this]
        rcases hx with rfl | rfl
        · exact N1
        · exact N2
    have := Rd.name (T := T) (b := b) (i := t.length) hb (by rw [h0]; exact w1) (by rw [h0]; exact w5) (by rw [h0]; exact w6) (by rw [h0]; exact w7) g1 g2
    rw [hsl] at this
    rw [W5 t ht hsp]
    exact this

theorem gap_at {T : Str} {a : Nat} {gp q : List Nat} (hd : NoDash T) (ha : a + gp.length ≤ 90000) (h : (cl T).drop a = gp ++ q) (hg : ∀ x ∈ gp, x = 32 ∨ x = 10) (hw : sg T (a + gp.length) = "" ∨ Txt.contains wsp (sg T (a + gp.length)) = false) : Gap T a gp.length := by
  refine ⟨ha, fun i hi => ?_, hw, (no_slice hd _).1, (no_slice hd _).2⟩
  have : sg T (a + i) = ⟨#[gp[i]]⟩ := sg_some (by rw [drop_at h, List.getElem?_append_left hi, List.getElem?_eq_getElem hi])
  rw [this]
  rcases hg _ (List.getElem_mem hi) with e | e <;> rw [e]
  · exact .inl rfl
  · exact .inr rfl
theorem pos_blank {T : Str} {a : Nat} {l k : Int} : ∀ j, (∀ i < j, sg T (a + i) = " ") → pos T a l k j = (l, k + j)
  | 0, _ => by simp [pos]
  | j + 1, h => by
    rw [pos_succ, pos_blank j fun i hi => h i (by omega), h j (by omega), if_neg (by decide)]
    refine Prod.ext rfl ?_
    show k + (j : Int) + 1 = k + ((j + 1 : Nat) : Int)
    omega
theorem pos_line {T : Str} {a : Nat} {l k : Int} (h0 : sg T a = "\n") : ∀ j, (∀ i < j, sg T (a + 1 + i) = " ") → pos T a l k (j + 1) = (l + 1, 1 + (j : Int))
  | 0, _ => by rw [pos_succ]; simp [pos, h0]
  | j + 1, h => by
    rw [pos_succ, pos_line h0 j fun i hi => h i (by omega)]
    have : sg T (a + (j + 1)) = " " := by have := h j (by omega); rwa [show a + 1 + j = a + (j + 1) by omega] at this
    rw [this, if_neg (by decide)]
    refine Prod.ext rfl ?_
    show 1 + (j : Int) + 1 = 1 + ((j + 1 : Nat) : Int)
    omega

noncomputable def wtail : List Str → List Nat
  | [] => []
  | w :: r => 32 :: (cl w ++ wtail r)
noncomputable def wjoin : List Str → List Nat
  | [] => []
  | w :: r => cl w ++ wtail r
noncomputable def lcps (x : Int × List Str) : List Nat := List.replicate (x.1 - 1).toNat 32 ++ wjoin x.2
noncomputable def ltail : List (Int × List Str) → List Nat
  | [] => []
  | x :: r => 10 :: (lcps x ++ ltail r)
theorem sep_tail (ws : List Str) (r : List (Int × List Str)) : Sep (wtail ws ++ ltail r) := by
  cases ws with
  | cons w ws => exact .inr ⟨32, _, rfl, .inl rfl⟩
  | nil =>
    cases r with
    | nil => exact .inl rfl
    | cons x r => exact .inr ⟨10, _, rfl, .inr rfl⟩

theorem lex_tail {T : Str} (hd : NoDash T) (hT : T.length ≤ 1000) : ∀ (r : List (Int × List Str)), (∀ x ∈ r, 1 ≤ x.1 ∧ 1 ≤ x.2.length ∧ ∀ w ∈ x.2, w ∈ vocab) → ∀ (ws : List Str), (∀ w ∈ ws, w ∈ vocab) → ∀ (a : Nat) (l k : Int), 0 ≤ k → a ≤ T.length → (cl T).drop a = wtail ws ++ ltail r →
    ∃ ds, Lx T a l k false ds ∧ Match (rowsL (k + 1) ws false ++ rowsOf r) ds := by
  intro r
  induction r with
  | nil =>
    intro hr ws
    induction ws with
    | nil =>
      intro hw a l k hk ha h
      have h0 : sg T a = "" := sg_none (by have := drop_at h 0; simpa [wtail, ltail] using this)
      have G : Gap T a 0 := gap_at (gp := []) (q := []) hd (by simp; omega) (by simpa [wtail, ltail] using h) (by simp) (.inl h0)
      exact ⟨_, .fin G (.fin h0), .nil rfl rfl rfl⟩
    | cons w ws ih =>
      intro hw a l k hk ha h
      have hwv := hw w List.mem_cons_self
      have h1 : (cl T).drop a = [32] ++ (cl w ++ (wtail ws ++ ltail [])) := by rw [h]; simp [wtail]
      have h2 := drop_more h1
      have hlen : a + 1 + w.length ≤ T.length := by
        have := congrArg List.length h1
        rw [List.length_drop, List.length_append, List.length_append, cl_len, cl_len] at this
        simp only [List.length_singleton] at this
        have hp : 1 ≤ w.length := by rw [← cl_len]; exact List.length_pos_iff.mpr (W3 w hwv).1
        omega
      obtain ⟨R, hx, h3⟩ := word_at (b := a + 1) hd (by omega) hwv h2 (sep_tail ws [])
      have G : Gap T a 1 := gap_at (gp := [32]) hd (by simp; omega) h1 (by simp) hx
      have hp : pos T a l k 1 = (l, k + 1) := by
        have := pos_blank (T := T) (a := a) (l := l) (k := k) 1 fun i hi => by
          have : i = 0 := by omega
          subst this
          exact sg_some (by have := drop_at h1 0; simpa using this)
        simpa using this
      obtain ⟨ds, L, M⟩ := ih (fun w' hw' => hw w' (List.mem_cons_of_mem _ hw')) (a + 1 + w.length) l (k + 1 + w.length) (by omega) hlen h3
      have L' := Lx.more (f := false) (l := l) (k := k) G R (by intro z; have := V1 w hwv; rw [z] at this; exact absurd this (by decide)) (by rw [hp]; exact L)
      refine ⟨_, L', ?_⟩
      rw [rowsL, List.cons_append]
      refine .cons hwv rfl rfl (by rw [hp]) (by rw [hp]; unfold fst?; simp) rfl (by omega) ?_
      exact M
  | cons x r ihr =>
    intro hr ws
    induction ws with
    | nil =>
      intro hw a l k hk ha h
      obtain ⟨c, v⟩ := x
      have hx0 := hr _ List.mem_cons_self
      have hr' : ∀ y ∈ r, 1 ≤ y.1 ∧ 1 ≤ y.2.length ∧ ∀ w ∈ y.2, w ∈ vocab := fun y hy => hr y (List.mem_cons_of_mem _ hy)
      cases v with
      | nil => exact absurd hx0.2.1 (by simp)
      | cons w ws' =>
        have hwv := hx0.2.2 w List.mem_cons_self
        have hc1 : 1 ≤ c := hx0.1
        have h1 : (cl T).drop a = (10 :: List.replicate (c - 1).toNat 32) ++ (cl w ++ (wtail ws' ++ ltail r)) := by
          rw [h]; simp [wtail, ltail, lcps, wjoin]
        have h2 := drop_more h1
        have hgl : (10 :: List.replicate (c - 1).toNat 32).length = (c - 1).toNat + 1 := by simp
        rw [hgl] at h2
        have hlen : a + ((c - 1).toNat + 1) + w.length ≤ T.length := by
          have := congrArg List.length h1
          rw [List.length_drop, List.length_append, List.length_append, cl_len, cl_len, hgl] at this
          omega
        obtain ⟨R, hx, h3⟩ := word_at (b := a + ((c - 1).toNat + 1)) hd (by omega) hwv h2 (sep_tail ws' r)
        have G : Gap T a ((c - 1).toNat + 1) := by
          have := gap_at (gp := 10 :: List.replicate (c - 1).toNat 32) hd (by rw [hgl]; omega) h1 (by
            intro y hy
            rcases List.mem_cons.mp hy with rfl | hy
            · exact .inr rfl
            · exact .inl (List.eq_of_mem_replicate hy)) (by rw [hgl]; exact hx)
          rwa [hgl] at this
        have hp : pos T a l k ((c - 1).toNat + 1) = (l + 1, c) := by
          rw [pos_line (sg_some (by have := drop_at h1 0; simpa using this)) _ fun i hi => ?_]
          · refine Prod.ext rfl ?_
            show 1 + (((c - 1).toNat : Nat) : Int) = c
            omega
          · refine sg_some ?_
            have := drop_at h1 (1 + i)
            rw [show a + 1 + i = a + (1 + i) by omega, this, List.getElem?_append_left (by rw [hgl]; omega), show 1 + i = i + 1 by omega, List.getElem?_cons_succ, List.getElem?_replicate, if_pos hi]
            rfl
        obtain ⟨ds, L, M⟩ := ihr hr' ws' (fun w' hw' => hx0.2.2 w' (List.mem_cons_of_mem _ hw')) (a + ((c - 1).toNat + 1) + w.length) (l + 1) (c + w.length) (by omega) hlen h3
        have L' := Lx.more (f := false) (l := l) (k := k) G R (by intro z; have := V1 w hwv; rw [z] at this; exact absurd this (by decide)) (by rw [hp]; exact L)
        refine ⟨_, L', ?_⟩
        have : rowsL (k + 1) [] false ++ rowsOf ((c, w :: ws') :: r) = (w, c, true) :: (rowsL (c + w.length + 1) ws' false ++ rowsOf r) := by
          unfold rowsOf; rw [List.flatMap_cons]; simp [rowsL]
        rw [this]
        refine .cons hwv rfl rfl (by rw [hp]) (by rw [hp]; unfold fst?; rw [if_pos (by simp; omega)]) rfl (by omega) ?_
        exact M
    | cons w ws ih =>
      intro hw a l k hk ha h
      have hwv := hw w List.mem_cons_self
      have h1 : (cl T).drop a = [32] ++ (cl w ++ (wtail ws ++ ltail (x :: r))) := by rw [h]; simp [wtail]
      have h2 := drop_more h1
      have hlen : a + 1 + w.length ≤ T.length := by
        have := congrArg List.length h1
        rw [List.length_drop, List.length_append, List.length_append, cl_len, cl_len] at this
        simp only [List.length_singleton] at this
        have hp : 1 ≤ w.length := by rw [← cl_len]; exact List.length_pos_iff.mpr (W3 w hwv).1
        omega
      obtain ⟨R, hx, h3⟩ := word_at (b := a + 1) hd (by omega) hwv h2 (sep_tail ws (x :: r))
      have G : Gap T a 1 := gap_at (gp := [32]) hd (by simp; omega) h1 (by simp) hx
      have hp : pos T a l k 1 = (l, k + 1) := by
        have := pos_blank (T := T) (a := a) (l := l) (k := k) 1 fun i hi => by
          have : i = 0 := by omega
          subst this
          exact sg_some (by have := drop_at h1 0; simpa using this)
        simpa using this
      obtain ⟨ds, L, M⟩ := ih (fun w' hw' => hw w' (List.mem_cons_of_mem _ hw')) (a + 1 + w.length) l (k + 1 + w.length) (by omega) hlen h3
      have L' := Lx.more (f := false) (l := l) (k := k) G R (by intro z; have := V1 w hwv; rw [z] at this; exact absurd this (by decide)) (by rw [hp]; exact L)
      refine ⟨_, L', ?_⟩
      rw [rowsL, List.cons_append]
      refine .cons hwv rfl rfl (by rw [hp]) (by rw [hp]; unfold fst?; simp) rfl (by omega) ?_
      exact M

theorem join_eq (s : Str) (l : List Str) : Txt.join s l = Str.join s l := by unfold Txt.join; rw [StrLaws.glued_eq_join]
theorem join_words : ∀ (w : Str) (r : List Str), cl (Txt.join " " (w :: r)) = cl w ++ wtail r
  | w, [] => by rw [join_eq]; show cl w = _; simp [wtail]
  | w, v :: r => by
    rw [join_cons2]
    unfold cl
    rw [app_cps, app_cps]
    have := join_words v r
    unfold cl at this
    rw [this]
    show _ ++ [32] ++ _ = _
    simp [wtail, cl]
theorem wjoin_cps (l : List Str) : cl (Txt.join " " l) = wjoin l := by
  cases l with
  | nil => rw [join_eq]; rfl
  | cons w r => exact join_words w r
theorem line_cps (x : Int × List Str) : cl (lineT x) = lcps x := by
  unfold lineT lcps cl
  rw [app_cps, mul_cps]
  have := wjoin_cps x.2
  unfold cl at this
  rw [this]
theorem join_lines : ∀ (x : Int × List Str) (r : List (Int × List Str)), cl (Txt.join "\n" ((x :: r).map lineT)) = lcps x ++ ltail r
  | x, [] => by rw [join_eq]; show cl (lineT x) = _; rw [line_cps]; simp [ltail]
  | x, y :: r => by
    have h := join_lines y r
    show cl (Txt.join "\n" (lineT x :: lineT y :: r.map lineT)) = _
    rw [join_cons2]
    unfold cl
    rw [app_cps, app_cps]
    have h' : (Txt.join "\n" (lineT y :: r.map lineT)).cps.toList = lcps y ++ ltail r := h
    rw [h']
    have hx := line_cps x
    unfold cl at hx
    rw [hx]
    show _ ++ [10] ++ _ = _
    simp [ltail]
theorem dash_w : ∀ ws : List Str, (∀ w ∈ ws, w ∈ vocab) → ∀ x ∈ wtail ws, x ≠ 45
  | [], _, x, hx => by cases hx
  | w :: r, h, x, hx => by
    rcases List.mem_cons.mp hx with rfl | hx
    · decide
    · rcases List.mem_append.mp hx with hx | hx
      · exact (W3 w (h w List.mem_cons_self)).2 x hx
      · exact dash_w r (fun w hw => h w (List.mem_cons_of_mem _ hw)) x hx
theorem dash_l (y : Int × List Str) (h : ∀ w ∈ y.2, w ∈ vocab) : ∀ x ∈ lcps y, x ≠ 45 := by
  intro x hx
  rcases List.mem_append.mp hx with hx | hx
  · rw [List.eq_of_mem_replicate hx]; decide
  · obtain ⟨c, ws⟩ := y
    cases ws with
    | nil => cases hx
    | cons w r =>
      rcases List.mem_append.mp hx with hx | hx
      · exact (W3 w (h w List.mem_cons_self)).2 x hx
      · exact dash_w r (fun w hw => h w (List.mem_cons_of_mem _ hw)) x hx
theorem dash_t : ∀ r : List (Int × List Str), (∀ y ∈ r, ∀ w ∈ y.2, w ∈ vocab) → ∀ x ∈ ltail r, x ≠ 45
  | [], _, x, hx => by cases hx
  | y :: r, h, x, hx => by
    rcases List.mem_cons.mp hx with rfl | hx
    · decide
    · rcases List.mem_append.mp hx with hx | hx
      · exact dash_l y (h y List.mem_cons_self) x hx
      · exact dash_t r (fun y hy => h y (List.mem_cons_of_mem _ hy)) x hx
theorem lex_all {lns : List (Int × List Str)} (g : GoodL lns) : ∃ all, Lx (textOf lns) 0 1 1 true all ∧ Match (rowsOf lns) all := by
  have hT : (textOf lns).length ≤ 1000 := text_len g
  cases lns with
  | nil =>
    have h : (cl (textOf [])).drop 0 = [] := by
      unfold textOf
      rw [List.map_nil, join_eq]; rfl
    have h0 : sg (textOf []) 0 = "" := sg_none (by have := drop_at h 0; simpa using this)
    have hd : NoDash (textOf []) := by intro x hx; rw [List.drop_zero] at h; rw [h] at hx; cases hx
    have G : Gap (textOf []) 0 0 := gap_at (gp := []) (q := []) hd (by simp) (by simpa using h) (by simp) (.inl h0)
    exact ⟨_, .fin G (.fin h0), .nil rfl rfl rfl⟩
  | cons x r =>
    generalize hTT : textOf (x :: r) = T at hT ⊢
    have h : cl T = lcps x ++ ltail r := by rw [← hTT]; exact join_lines x r
    have hd : NoDash T := by
      intro y hy
      rw [h] at hy
      rcases List.mem_append.mp hy with hy | hy
      · exact dash_l x (g.2 x List.mem_cons_self).2.2.2.2 y hy
      · exact dash_t r (fun z hz => (g.2 z (List.mem_cons_of_mem _ hz)).2.2.2.2) y hy
    have gx := g.2 x List.mem_cons_self
    have gr : ∀ y ∈ r, 1 ≤ y.1 ∧ 1 ≤ y.2.length ∧ ∀ w ∈ y.2, w ∈ vocab := fun y hy => by have := g.2 y (List.mem_cons_of_mem _ hy); exact ⟨this.1, this.2.2.1, this.2.2.2.2⟩
    obtain ⟨c, v⟩ := x
    cases v with
    | nil => exact absurd gx.2.2.1 (by simp)
    | cons w ws =>
      have hwv := gx.2.2.2.2 w List.mem_cons_self
      have hc1 : 1 ≤ c := gx.1
      have h1 : (cl T).drop 0 = List.replicate (c - 1).toNat 32 ++ (cl w ++ (wtail ws ++ ltail r)) := by
        rw [List.drop_zero, h]; simp [lcps, wjoin]
      have h2 := drop_more h1
      rw [List.length_replicate] at h2
      have hlen : 0 + (c - 1).toNat + w.length ≤ T.length := by
        have := congrArg List.length h1
        rw [List.drop_zero, List.length_append, List.length_append, cl_len, cl_len, List.length_replicate] at this
        omega
      obtain ⟨R, hx, h3⟩ := word_at (b := 0 + (c - 1).toNat) hd (by omega) hwv h2 (sep_tail ws r)
      have G : Gap T 0 (c - 1).toNat := by
        have := gap_at (a := 0) (gp := List.replicate (c - 1).toNat 32) hd (by rw [List.length_replicate]; omega) h1 (fun y hy => .inl (List.eq_of_mem_replicate hy)) (by rw [List.length_replicate]; exact hx)
        rwa [List.length_replicate] at this
      have hp : pos T 0 1 1 (c - 1).toNat = (1, c) := by
        rw [pos_blank _ fun i hi => ?_]
        · refine Prod.ext rfl ?_
          show 1 + (((c - 1).toNat : Nat) : Int) = c
          omega
        · refine sg_some ?_
          rw [drop_at h1, List.getElem?_append_left (by rw [List.length_replicate]; exact hi), List.getElem?_replicate, if_pos hi]
          rfl
      obtain ⟨ds, L, M⟩ := lex_tail hd hT r gr ws (fun w' hw' => gx.2.2.2.2 w' (List.mem_cons_of_mem _ hw')) (0 + (c - 1).toNat + w.length) 1 (c + w.length) (by omega) hlen h3
      have L' := Lx.more (f := true) (l := 1) (k := 1) G R (by intro z; have := V1 w hwv; rw [z] at this; exact absurd this (by decide)) (by rw [hp]; exact L)
      refine ⟨_, L', ?_⟩
      have : rowsOf ((c, w :: ws) :: r) = (w, c, true) :: (rowsL (c + w.length + 1) ws false ++ rowsOf r) := by
        unfold rowsOf; rw [List.flatMap_cons]; simp [rowsL]
      rw [this]
      refine .cons hwv rfl rfl (by rw [hp]) (by rw [hp]; unfold fst?; simp) rfl (by omega) ?_
      exact M
theorem plain {lns : List (Int × List Str)} (g : GoodL lns) : PlainOk lns := by
  obtain ⟨all, L, M⟩ := lex_all g
  exact plain_of g L M

theorem ex_run {w : World} {n : Nat} {fe : FE} {c : Cx} {body : List Stmt} {m : Loc} {ah : AH} {s : Shared} (hc : c.Ok w n fe) (hst : St c m [] ah s) (h : Ex w n fe body m ah (fun fl _ _ => fl = .ret (.bool true)) (fun _ => False)) {Qc : Flow → Shared → Prop} {Ec : Value → Shared → Prop}
    (hQ : ∀ h tk vm, Fr c.base c.L h vm → Qc (.ret (.bool true)) { s with heap := h, toks := tk }) : wpAny (model prog w) (c.A fe) (execs body (c.env fe)) Qc Ec s :=
  h c [] s hc hst Qc Ec (fun b a m' ah' h tk q r st => by subst q; obtain ⟨vm, news, ow, F, _⟩ := st; cases r with | ret hv => cases hv; exact hQ h tk vm F) fun _ _ _ _ f => f.elim
theorem start_st {c : Cx} {vm : Str → Option Value} {D : Addr} {x : Str} {items : List Value} {ns : List Int} {s : Shared} (hfs : c.fs = []) (F : Fr c.base c.L s.heap vm) (hv : vm x = some (.ref D)) (hL : c.base.IsList D items.toArray) (hI : IntsAre items ns) :
    St c (fun y => if y = x then some (.ref D) else none) [] (fun a => if a = D then some (.scr ns) else none) s := by
  refine ⟨vm, [], fun _ => none, F, ?_, ?_, ?_⟩
  · intro y a e
    dsimp only at e
    by_cases q : y = x
    · rw [if_pos q] at e; cases e; exact ⟨_, q ▸ hv, .ref D⟩
    · rw [if_neg q] at e; cases e
  · intro p hp; cases hp
  · refine ⟨by simp, fun a o e => ?_, by simp, ?_, by simp⟩
    · by_cases q : a = D
      · rw [if_pos q] at e; cases e; rw [q]; exact .scr hL hI
      · rw [if_neg q] at e; cases e
    · rw [hfs]; intro y hy; cases hy

namespace fin
theorem tw18105285910621931680 : True := trivial
theorem tw5634151482396758240 : True := trivial
theorem tw6435670951450185984 : True := trivial
theorem tw4209717502836232480 : True := trivial
theorem tw10599938827571368224 : True := trivial
theorem tw1544503264643628384 : True := trivial
theorem tw828056024939588000 : True := trivial
theorem tw3506512066687448480 : True := trivial
theorem tw3767311804947220896 : True := trivial
theorem tw4640724917100965312 : True := trivial
theorem tw17801579834951734752 : True := trivial
theorem tw14109310954907245088 : True := trivial
theorem tw17701328389417463424 : True := trivial
theorem tw6515953530934532768 : True := trivial
theorem tw9757074474933493440 : True := trivial
theorem tw8656503046869711584 : True := trivial
theorem tw11298980531735778240 : True := trivial
theorem tw11192643925408225281 : True := trivial
theorem tw7522001649326652513 : True := trivial
theorem tw11293339424137598113 : True := trivial
theorem tw11575174756993882273 : True := trivial
theorem tw7249652514872940865 : True := trivial
theorem tw15566928917628492161 : True := trivial
theorem tw15815952407149668801 : True := trivial
theorem tw4443050520305737185 : True := trivial
theorem tw14838103818555229697 : True := trivial
theorem tw452842511749404161 : True := trivial
theorem tw5647864574477489665 : True := trivial
theorem tw16678980180976206529 : True := trivial
theorem tw5063726193072054017 : True := trivial
theorem tw15205425988870721313 : True := trivial
theorem tw18105942590061964161 : True := trivial
theorem tw4928979718650693569 : True := trivial
theorem tw8119881530291889089 : True := trivial
theorem tw5678346346211369953 : True := trivial
theorem tw5486226609284752418 : True := trivial
theorem tw17717364068325071970 : True := trivial
theorem tw9962418760945406050 : True := trivial
theorem tw9357874355931990178 : True := trivial
theorem tw15675102808854859970 : True := trivial
theorem tw12448240930570709186 : True := trivial
theorem tw8018989035897545986 : True := trivial
theorem tw13337293482115323266 : True := trivial
theorem tw10829458402184033698 : True := trivial
theorem tw10699407837109476802 : True := trivial
theorem tw2824846461999071874 : True := trivial
theorem tw10696652717036330658 : True := trivial
theorem tw16488607150827929282 : True := trivial
theorem tw12180539936304867106 : True := trivial
theorem tw18255404467826089762 : True := trivial
theorem tw4769821431679368130 : True := trivial
theorem tw12962497063298326498 : True := trivial
theorem tw18082680734076937219 : True := trivial
theorem tw4424551920762525699 : True := trivial
theorem tw13467322939085005891 : True := trivial
theorem tw670465573061467203 : True := trivial
theorem tw8590288500278120515 : True := trivial
theorem tw4170516301191304579 : True := trivial
theorem tw7930893340574950883 : True := trivial
theorem tw9113340658982188547 : True := trivial
theorem tw8022495867317838339 : True := trivial
theorem tw13066358836101814915 : True := trivial
theorem tw16115155874713506467 : True := trivial
theorem tw11454252539852477091 : True := trivial
theorem tw5402249366112354979 : True := trivial
theorem tw3762306804915933987 : True := trivial
theorem tw15989303212955285315 : True := trivial
theorem tw12135189313929291683 : True := trivial
theorem tw11151619158091525091 : True := trivial
theorem tw6667815254911646788 : True := trivial
theorem tw17132207802985990308 : True := trivial
theorem tw14345562132136545540 : True := trivial
theorem tw6388184931127306564 : True := trivial
theorem tw17662344363894024548 : True := trivial
theorem tw10567028658651823492 : True := trivial
theorem tw2775396313129547428 : True := trivial
theorem tw17963964198891936676 : True := trivial
theorem tw9260378047223084069 : True := trivial
theorem tw1560641971993327685 : True := trivial
theorem tw7716820226725407877 : True := trivial
theorem tw2367325634123391141 : True := trivial
theorem tw7929640520542984453 : True := trivial
theorem tw10818889477481085253 : True := trivial
theorem tw8269367382603917829 : True := trivial
theorem tw612862322836996645 : True := trivial
theorem tw6956187926921108005 : True := trivial
theorem tw14578271805448956485 : True := trivial
theorem tw5102460946473063141 : True := trivial
theorem tw6474043946942992101 : True := trivial
theorem tw10007411396671696613 : True := trivial
theorem tw2305881189932309285 : True := trivial
theorem tw7613857476909055813 : True := trivial
theorem tw13925877587632400325 : True := trivial
theorem tw7613945582906998725 : True := trivial
theorem tw13814004702073501669 : True := trivial
theorem tw11273041486466551846 : True := trivial
theorem tw12833947400113492166 : True := trivial
theorem tw10895054467252067526 : True := trivial
theorem tw16275787546110486726 : True := trivial
theorem tw3788772014149755174 : True := trivial
theorem tw12669758225909598566 : True := trivial
theorem tw1951045429614898598 : True := trivial
theorem tw17637551073024348614 : True := trivial
theorem tw15523922138108190246 : True := trivial
theorem tw3199103547748192838 : True := trivial
theorem tw17130245016438642246 : True := trivial
theorem tw10807920368746810246 : True := trivial
theorem tw15459455144867644326 : True := trivial
theorem tw4171678462856256454 : True := trivial
theorem tw13295704053362595847 : True := trivial
theorem tw8577089030196625639 : True := trivial
theorem tw12696600883282566439 : True := trivial
theorem tw8330952907988395303 : True := trivial
theorem tw12118000046449163591 : True := trivial
theorem tw9218923581257491847 : True := trivial
theorem tw17123178472405020103 : True := trivial
theorem tw3112429581023547943 : True := trivial
theorem tw10383673109516279431 : True := trivial
theorem tw13360279666012451719 : True := trivial
theorem tw14856888987745899463 : True := trivial
theorem tw1035503724928835527 : True := trivial
theorem tw1976505206021243879 : True := trivial
theorem tw14279960228734115912 : True := trivial
theorem tw7380833856163905736 : True := trivial
theorem tw14679806638718605512 : True := trivial
theorem tw11466478281803324712 : True := trivial
theorem tw12494888245299231016 : True := trivial
theorem tw2086631506510373192 : True := trivial
theorem tw10925335251469727208 : True := trivial
theorem tw4040260094072895976 : True := trivial
theorem tw2976117146107443816 : True := trivial
theorem tw14431720936831517352 : True := trivial
theorem tw1625080806587739848 : True := trivial
theorem tw11897717083992391400 : True := trivial
theorem tw15149952090015108872 : True := trivial
theorem tw8919302590299486024 : True := trivial
theorem tw3974152918291533672 : True := trivial
theorem tw428092273266315144 : True := trivial
theorem tw3125960719983571848 : True := trivial
theorem tw999798209818781672 : True := trivial
theorem tw1422313219903470601 : True := trivial
theorem tw12946824338688289833 : True := trivial
theorem tw3343445320678177929 : True := trivial
theorem tw15533503492667675913 : True := trivial
theorem tw10671828304227620169 : True := trivial
theorem tw1921391257341544841 : True := trivial
theorem tw16656299143469825513 : True := trivial
theorem tw15234240111613058569 : True := trivial
theorem tw4684940682943077961 : True := trivial
theorem tw9735714214384596553 : True := trivial
theorem tw3004984022683251337 : True := trivial
theorem tw17570709534508481193 : True := trivial
theorem tw8352470293576582857 : True := trivial
theorem tw16196181902256332553 : True := trivial
theorem tw7830629276484211593 : True := trivial
theorem tw14855157385224911753 : True := trivial
theorem tw16269368082590959529 : True := trivial
theorem tw11953781441336167498 : True := trivial
theorem tw10852849658779182186 : True := trivial
theorem tw16906536467411238026 : True := trivial
theorem tw757079261281740938 : True := trivial
theorem tw884059145510264010 : True := trivial
theorem tw16570786720924097770 : True := trivial
theorem tw7468727024169554154 : True := trivial
theorem tw8559517257967667466 : True := trivial
theorem tw13898374239775968522 : True := trivial
theorem tw6081921254191324426 : True := trivial
theorem tw13715509101747965226 : True := trivial
theorem tw12149302876761508202 : True := trivial
theorem tw4329306826757983850 : True := trivial
theorem tw4868334931027891882 : True := trivial
theorem tw2866121171748074186 : True := trivial
theorem tw14568449535678555946 : True := trivial
theorem tw17186005699333237546 : True := trivial
theorem tw14139026862911339306 : True := trivial
theorem tw4588413851689716618 : True := trivial
theorem tw10874316729293906858 : True := trivial
theorem tw14560573928864763818 : True := trivial
theorem tw12284014389350100970 : True := trivial
theorem tw10242451874928486539 : True := trivial
theorem tw13870153662132920491 : True := trivial
theorem tw857469055436470443 : True := trivial
theorem tw8399098705505230059 : True := trivial
theorem tw17821466097196317003 : True := trivial
theorem tw14210890002308233579 : True := trivial
theorem tw2067723777617599883 : True := trivial
theorem tw18164189302063226315 : True := trivial
theorem tw7661832156752021035 : True := trivial
theorem tw16285329926789087883 : True := trivial
theorem tw15741700470354863883 : True := trivial
theorem tw5962627729488381771 : True := trivial
theorem tw12809788781938459499 : True := trivial
theorem tw17416127249078093707 : True := trivial
theorem tw2302991567755704267 : True := trivial
theorem tw6449190631224713292 : True := trivial
theorem tw8569027658895312972 : True := trivial
theorem tw1963134401048803436 : True := trivial
theorem tw17347454772498655404 : True := trivial
theorem tw16496857829328116044 : True := trivial
theorem tw6207176494656529804 : True := trivial
theorem tw5734618986648460908 : True := trivial
theorem tw15144710454662140524 : True := trivial
theorem tw803859442106103436 : True := trivial
theorem tw10070804522480449196 : True := trivial
theorem tw6846200578177281708 : True := trivial
theorem tw6634307039904815820 : True := trivial
theorem tw10196768644732416780 : True := trivial
theorem tw12356021495744459628 : True := trivial
theorem tw12629903358213643309 : True := trivial
theorem tw17108682257543074861 : True := trivial
theorem tw12876116671307685997 : True := trivial
theorem tw8289400949097046189 : True := trivial
theorem tw16109372258727991565 : True := trivial
theorem tw16530489862217454893 : True := trivial
theorem tw13093503161671486093 : True := trivial
theorem tw2617349483901765261 : True := trivial
theorem tw7845872953664198349 : True := trivial
theorem tw5011121235533021005 : True := trivial
theorem tw17698704350827878285 : True := trivial
theorem tw6531376189190222733 : True := trivial
theorem tw9001875181463519149 : True := trivial
theorem tw3029852977388229646 : True := trivial
theorem tw12557769604369416430 : True := trivial
theorem tw2304379251839397102 : True := trivial
theorem tw9913140749668108558 : True := trivial
theorem tw6381419901266130222 : True := trivial
theorem tw8614737586434602478 : True := trivial
theorem tw1982079694162106894 : True := trivial
theorem tw5071919506433949198 : True := trivial
theorem tw17656766251404061198 : True := trivial
theorem tw10939691994893167182 : True := trivial
theorem tw7684487725183542926 : True := trivial
theorem tw14166196953294261902 : True := trivial
theorem tw17743408960866722510 : True := trivial
theorem tw1450881378762983150 : True := trivial
theorem tw2408960939061249870 : True := trivial
theorem tw5897612983314593646 : True := trivial
theorem tw2512408688544751470 : True := trivial
theorem tw14728723275428758510 : True := trivial
theorem tw17197158672614542318 : True := trivial
theorem tw11154830654865731599 : True := trivial
theorem tw13929302177132474383 : True := trivial
theorem tw10391319463526535247 : True := trivial
theorem tw1535588207084551279 : True := trivial
theorem tw17495881415371897999 : True := trivial
theorem tw11277574374343807151 : True := trivial
theorem tw2415902012162501839 : True := trivial
theorem tw7000300075881102575 : True := trivial
theorem tw9361326884244611343 : True := trivial
theorem tw15942684835789789487 : True := trivial
theorem tw3268265519342814607 : True := trivial
theorem tw6323506392446703087 : True := trivial
theorem tw2671655128345628175 : True := trivial
theorem tw13021059552284102479 : True := trivial
theorem tw14786503066443513839 : True := trivial
theorem tw18186706949227917456 : True := trivial
theorem tw6454446336052903152 : True := trivial
theorem tw7844069586390513008 : True := trivial
theorem tw13790858721211988464 : True := trivial
theorem tw12996517811204074000 : True := trivial
theorem tw982560976839675504 : True := trivial
theorem tw13815853411582834384 : True := trivial
theorem tw12751662967071866640 : True := trivial
theorem tw2321816554428607280 : True := trivial
theorem tw1635022588487117616 : True := trivial
theorem tw500868675978126160 : True := trivial
theorem tw13383306551100868464 : True := trivial
theorem tw13162651487661262736 : True := trivial
theorem tw16958243865122950064 : True := trivial
theorem tw11336253725339858928 : True := trivial
theorem tw1252854909445205041 : True := trivial
theorem tw3173534031939492945 : True := trivial
theorem tw4312942655851389009 : True := trivial
theorem tw7559896342123350129 : True := trivial
theorem tw15094949803261831281 : True := trivial
theorem tw2462912638960843985 : True := trivial
theorem tw5098551885099359569 : True := trivial
theorem tw18387650150990424433 : True := trivial
theorem tw17869975865946814897 : True := trivial
theorem tw480829909506669009 : True := trivial
theorem tw15832999045522443761 : True := trivial
theorem tw16934629359412608497 : True := trivial
theorem tw11414674201277728305 : True := trivial
theorem tw3404873503106905745 : True := trivial
theorem tw5266742908149448401 : True := trivial
theorem tw14075178694198228753 : True := trivial
theorem tw5320702786494000081 : True := trivial
theorem tw2656788454239962097 : True := trivial
theorem tw9722632081671974098 : True := trivial
theorem tw11587955951900863698 : True := trivial
theorem tw10907391636593693970 : True := trivial
theorem tw12105171945263650130 : True := trivial
theorem tw1887099378405440850 : True := trivial
theorem tw5073790198343104882 : True := trivial
theorem tw11607805686811502034 : True := trivial
theorem tw8643116662766533202 : True := trivial
theorem tw3837020019201816242 : True := trivial
theorem tw12847644182280273618 : True := trivial
theorem tw9363291351745731410 : True := trivial
theorem tw17971676594858020690 : True := trivial
theorem tw6766580051018981234 : True := trivial
theorem tw12718612220689870738 : True := trivial
theorem tw3827041629858089107 : True := trivial
theorem tw13700621096757390547 : True := trivial
theorem tw5196160543931855155 : True := trivial
theorem tw5918270172994372947 : True := trivial
theorem tw6766378078585498003 : True := trivial
theorem tw14134379338385194387 : True := trivial
theorem tw16502652511500755 : True := trivial
theorem tw891787732878383699 : True := trivial
theorem tw4768634762848416435 : True := trivial
theorem tw16540275574145912595 : True := trivial
theorem tw17974384156558142227 : True := trivial
theorem tw17933470926392208243 : True := trivial
theorem tw14574801432027512755 : True := trivial
theorem tw3599858809825778643 : True := trivial
theorem tw3598329298470268980 : True := trivial
theorem tw7830602891274557492 : True := trivial
theorem tw1080700006314346644 : True := trivial
theorem tw15344004072050561172 : True := trivial
theorem tw7282745182861764756 : True := trivial
theorem tw11764640858105366932 : True := trivial
theorem tw6577878126316647860 : True := trivial
theorem tw17430205856086898164 : True := trivial
theorem tw6567050819087999508 : True := trivial
theorem tw14814673180317915700 : True := trivial
theorem tw4656794296561843764 : True := trivial
theorem tw888132650186811988 : True := trivial
theorem tw11079828417688620724 : True := trivial
theorem tw10936777179133785780 : True := trivial
theorem tw5227809002895711924 : True := trivial
theorem tw12464766053444552404 : True := trivial
theorem tw9247658263007524724 : True := trivial
theorem tw3998398428148030388 : True := trivial
theorem tw13158425560686309300 : True := trivial
theorem tw7321584467024264148 : True := trivial
theorem tw6718411051458867188 : True := trivial
theorem tw17719728818120068181 : True := trivial
theorem tw216489041496292469 : True := trivial
theorem tw11040825799340251285 : True := trivial
theorem tw8025084765662995669 : True := trivial
theorem tw14517287926952318261 : True := trivial
theorem tw380778119907437045 : True := trivial
theorem tw12347537446847802165 : True := trivial
theorem tw2537931557510868981 : True := trivial
theorem tw6878024787957991413 : True := trivial
theorem tw4759752924163587094 : True := trivial
theorem tw6712194924023145494 : True := trivial
theorem tw10553568164054440022 : True := trivial
theorem tw14785452698993717334 : True := trivial
theorem tw7822013112032934038 : True := trivial
theorem tw4598667867955821814 : True := trivial
theorem tw9806666330580929782 : True := trivial
theorem tw17449020081951674710 : True := trivial
theorem tw7439575562449295702 : True := trivial
theorem tw4162185377826839926 : True := trivial
theorem tw783483362715066742 : True := trivial
theorem tw333583748066197110 : True := trivial
theorem tw6127190174262240918 : True := trivial
theorem tw17512474026176034454 : True := trivial
theorem tw15399907426655090358 : True := trivial
theorem tw3263211703599914710 : True := trivial
theorem tw3810570522144960214 : True := trivial
theorem tw2910385600587045654 : True := trivial
theorem tw9544026089342320630 : True := trivial
theorem tw6498334528663615478 : True := trivial
theorem tw1397303283331804279 : True := trivial
theorem tw2316539691658765527 : True := trivial
theorem tw3810338749695602999 : True := trivial
theorem tw18195182924450695511 : True := trivial
theorem tw8383268338085895543 : True := trivial
theorem tw8668149382578428375 : True := trivial
theorem tw13199158710529813207 : True := trivial
theorem tw12977279227502587607 : True := trivial
theorem tw10751089155417173751 : True := trivial
theorem tw4898026214463823928 : True := trivial
theorem tw17067295170570645592 : True := trivial
theorem tw2789213428527533208 : True := trivial
theorem tw9917203430921899224 : True := trivial
theorem tw13516622038369049944 : True := trivial
theorem tw10329872625359487480 : True := trivial
theorem tw13177410634674063896 : True := trivial
theorem tw4788878847521262168 : True := trivial
theorem tw17362494058136835672 : True := trivial
theorem tw15621619335703214680 : True := trivial
theorem tw5776136370200156792 : True := trivial
theorem tw876206183137641144 : True := trivial
theorem tw8281523328739849912 : True := trivial
theorem tw9746214513668125432 : True := trivial
theorem tw4878226113927451544 : True := trivial
theorem tw12932903420030652473 : True := trivial
theorem tw16252508478716706905 : True := trivial
theorem tw8272817396058243321 : True := trivial
theorem tw17041991840579044601 : True := trivial
theorem tw5805905742469029177 : True := trivial
theorem tw18230178534529381785 : True := trivial
theorem tw3028926083550364057 : True := trivial
theorem tw12550770813317053977 : True := trivial
theorem tw3975253019698251321 : True := trivial
theorem tw5293390819737331289 : True := trivial
theorem tw4879674094562380441 : True := trivial
theorem tw6455845175183424153 : True := trivial
theorem tw1250750463660198617 : True := trivial
theorem tw8416529770105884409 : True := trivial
theorem tw14347400895652799225 : True := trivial
theorem tw8999559765510592377 : True := trivial
theorem tw16205109500356779066 : True := trivial
theorem tw7803649310394182010 : True := trivial
theorem tw12869217540446652890 : True := trivial
theorem tw7070210977369740762 : True := trivial
theorem tw8331973007464152698 : True := trivial
theorem tw12567809125941998234 : True := trivial
theorem tw16401934584784274106 : True := trivial
theorem tw12876064707754696378 : True := trivial
theorem tw9725021084223525626 : True := trivial
theorem tw6058378993454661626 : True := trivial
theorem tw16103849850496634939 : True := trivial
theorem tw10511823565363050587 : True := trivial
theorem tw6341822008880759003 : True := trivial
theorem tw4100293265295638779 : True := trivial
theorem tw4570111826955561243 : True := trivial
theorem tw807531904560671035 : True := trivial
theorem tw13724452099449386491 : True := trivial
theorem tw11039862389202566683 : True := trivial
theorem tw17164383140453370395 : True := trivial
theorem tw15564276425815640635 : True := trivial
theorem tw15201286185872193147 : True := trivial
theorem tw9839346839192117915 : True := trivial
theorem tw9445451236469955387 : True := trivial
theorem tw10234915967203826555 : True := trivial
theorem tw9997704412844104603 : True := trivial
theorem tw8947099994592609211 : True := trivial
theorem tw10875463905939285979 : True := trivial
theorem tw111200028466390044 : True := trivial
theorem tw7890596953891613788 : True := trivial
theorem tw13423622936843584764 : True := trivial
theorem tw7278507554335971580 : True := trivial
theorem tw3812028171767442716 : True := trivial
theorem tw3229026465367968156 : True := trivial
theorem tw15309079848183770524 : True := trivial
theorem tw3955986520655104412 : True := trivial
theorem tw3314143786362844604 : True := trivial
theorem tw7779959011674639804 : True := trivial
theorem tw7976502392129159676 : True := trivial
theorem tw6289197191216398940 : True := trivial
theorem tw17861066769153400444 : True := trivial
theorem tw16237762584071213788 : True := trivial
theorem tw9746901515087519452 : True := trivial
theorem tw10782327089294195420 : True := trivial
theorem tw6232080684201472732 : True := trivial
theorem tw16256441300576474876 : True := trivial
theorem tw5901363791540438844 : True := trivial
theorem tw12291753297600562012 : True := trivial
theorem tw251868834278440796 : True := trivial
theorem tw12355744275394475900 : True := trivial
theorem tw11936995450923721628 : True := trivial
theorem tw6650461044873433052 : True := trivial
theorem tw14333544728242365436 : True := trivial
theorem tw11615019562542576733 : True := trivial
theorem tw14793013804824869981 : True := trivial
theorem tw544173102793226557 : True := trivial
theorem tw6144012678527597917 : True := trivial
theorem tw775568199269383549 : True := trivial
theorem tw3456623496861543869 : True := trivial
theorem tw1012361349325877821 : True := trivial
theorem tw11061592194353771069 : True := trivial
theorem tw7237211504229103197 : True := trivial
theorem tw5115476493328737885 : True := trivial
theorem tw895571856199123645 : True := trivial
theorem tw4013537778516871869 : True := trivial
theorem tw12649782002744950493 : True := trivial
theorem tw17260493314774615805 : True := trivial
theorem tw6068950659093879613 : True := trivial
theorem tw16307707646766795581 : True := trivial
theorem tw7995362448368537469 : True := trivial
theorem tw4719063310657182621 : True := trivial
theorem tw7451905468542833597 : True := trivial
theorem tw3105451386036433885 : True := trivial
theorem tw15688172546075569117 : True := trivial
theorem tw1613116972386908190 : True := trivial
theorem tw9610726530385051774 : True := trivial
theorem tw15373703851562958014 : True := trivial
theorem tw1819255440876223710 : True := trivial
theorem tw14245171486683049214 : True := trivial
theorem tw12221555665107904926 : True := trivial
theorem tw6968583824967984638 : True := trivial
theorem tw10580198807604790814 : True := trivial
theorem tw4326780796455107134 : True := trivial
theorem tw13294311002278339166 : True := trivial
theorem tw2051409578822353534 : True := trivial
theorem tw6219821813347048094 : True := trivial
theorem tw3857263333814641470 : True := trivial
theorem tw846297522682114974 : True := trivial
theorem tw7470013935711676318 : True := trivial
theorem tw1014637456484912126 : True := trivial
theorem tw11227884535216515135 : True := trivial
theorem tw4180101509539245183 : True := trivial
theorem tw12237877928780879103 : True := trivial
theorem tw17628183408451194143 : True := trivial
theorem tw7547296005191728479 : True := trivial
theorem tw6707113841082798463 : True := trivial
theorem tw4754365596532378047 : True := trivial
theorem tw2608567993692976607 : True := trivial
theorem tw14541005305830221311 : True := trivial
theorem tw17784850919643140607 : True := trivial
theorem tw2236755162388048479 : True := trivial
theorem tw4265850918314828415 : True := trivial
theorem tw12829507556594621215 : True := trivial
theorem tw3459265974087741279 : True := trivial
theorem tw14497727239971306367 : True := trivial
theorem tw16510490156224867327 : True := trivial
theorem tw2590679943691811361 : True := trivial
end fin
set_option Elab.async true in
set_option maxHeartbeats 8000000 in
theorem fin : PySem.Challenge.rw_np0243_01.Holds := by
  (w_on; o_law; k_head; (case hw => w_witness2))
  k_go0
  have hI := ‹IntsAre _ _›
  have hT := ‹Top _ _ _ _ _ _›
  have hK : (hd.heap_1 (‹World›).params).In _ := ‹Frag.In _ _›
  have hF := ‹Fr _ _ _ _›
  have hLs := ‹Heap.IsList _ _ _›
  refine ex_run (n := 30) (c := ⟨callerA, _, [], _, _, _, _, _, _, _⟩) (fe := ⟨"law", _, _⟩) ⟨rfl, rfl, (by show callerA.depth + 30 ≤ 900; rw [depth_caller]; decide), (by show callerA.units + 20 * 30 ≤ 9000; rw [units_caller]; decide), hK, hT, ⟨by simp, by simp⟩, by simp, rfl⟩ (start_st (x := "script") rfl hF rfl hLs hI) ?_ ?_
  · have ff : ¬ ((false : Bool) = true) := by decide
    have hz := ‹¬ ((63 : Nat) : Int) < _›
    repeat' tb_start
    refine law_pool_spec (if_pos rfl) (by omega) ?_
    intro S A B ah1 nS eS hA hB hB2 ex1
    repeat' tb_start
    refine lines_spec ⟨A, B, eS, hA, hB, hB2⟩ ?_
    intro Ls ts was lns ah2 nLs eS2 eLs ln nLw nLS g kp2
    obtain ⟨all, d, k0, res, k1, sts, hLx, hal, W, hd', hR, hk0, hLd, hk1, hml, hst, hbd, hvv⟩ := plain g
    repeat' tb_start
    refine text_spec eLs ln g ?_
    intro ah3 x3
    repeat' tb_start
    refine words_of_spec (Nat.le_trans (text_len g) (by decide)) hLx (by omega) ?_
    intro F refs ah4 nF eF wd x4
    have x24 := x3.trans x4
    have eLs4 := x24 _ _ eLs
    have ln4 : LnsAt ah4 S ts was lns := ln.mono fun b o _ q => x24 b o q
    have nFS : F ≠ S := by obtain ⟨A', B', e', _⟩ := eS2; exact (AH.ne_of (x3 _ _ e') nF).symm
    repeat' tb_start
    refine marked_spec eLs4 ln4 g ?_
    intro M ms ah5 nM eM at5 x5
    repeat' tb_start
    refine laid_spec eM at5 hLd hk1 hml (fun outs ho D2 ah6 nD eD x6 => ?_) (fun ho ah6 x6 => ?_)
    · have eF6 := x6 _ _ (x5 _ _ eF)
      have wd6 := (wd.ext x5).ext x6
      have nDS : D2 ≠ S := by obtain ⟨A', B', e', _⟩ := eS2; exact (AH.ne_of (x5 _ _ (x24 _ _ e')) nD).symm
      repeat' tb_start
      refine told_spec eF6 wd6 W hd' hR hk0 (fun outs' hr => ⟨by have := (hbd outs' hr).1; omega, (hbd outs' hr).2⟩) (fun outs' hr F3 ah7 e7 x7 => ?_) (fun hr => by rw [hr] at hst; rw [ho] at hst; cases hst)
      have hoo : outs = (outs'.map shownP).dropLast := by rw [ho, hr] at hst; exact Option.some.inj hst
      subst hoo
      have eD7 := x7 _ _ eD
      repeat' tb_start
      refine Cop.neStrs e7 eD7 ?_
      repeat' tb_start
      refine ite_f ff ?_
      repeat' tb_start
      refine ite_f ff ?_
      repeat' tb_start
      have eS7 : SrcAt ah7 S := by obtain ⟨A', B', e', r'⟩ := eS2; exact ⟨A', B', x7 _ _ (x6 _ _ (x5 _ _ (x24 _ _ e'))), r'⟩
      refine peeked_spec eS7 (x7 _ _ eF6) (wd6.ext x7) W hd' (hr ▸ hR) (hbd outs' hr).1 eD7 (hbd outs' hr).2 ⟨nFS, nDS⟩ hvv ?_
      intro ah8
      (repeat' tb_start)
      rfl
    · have eF6 := x6 _ _ (x5 _ _ eF)
      have wd6 := (wd.ext x5).ext x6
      repeat' tb_start
      refine told_spec eF6 wd6 W hd' hR hk0 (fun outs' hr => ⟨by have := (hbd outs' hr).1; omega, (hbd outs' hr).2⟩) (fun outs' hr F3 ah7 e7 x7 => by rw [hr, ho] at hst; cases hst) (fun hr ah7 x7 => ?_)
      repeat' tb_start
      refine ite_f ff ?_
      repeat' tb_start
      refine ite_t rfl ?_
      (repeat' tb_start)
      rfl
  · intro h tk vm F'
    dsimp only at F' ⊢
    show GoodW _ _ _ _ _ (.ok (.ret (.bool true))) _
    wrow_close
end Mine
theorem PySem.Challenge.cw_np0243_01_holds : PySem.Challenge.rw_np0243_01.Holds := by
  exact Mine.fin
