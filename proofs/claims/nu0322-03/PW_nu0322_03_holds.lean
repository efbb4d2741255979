import PyProof.Rows.All
import Wide.All
import OpenK.AllK
import Wide.FinOn
import KE.KSortTup
import PySem.Challenge.RW_nu0322_03
open PySem PySem.W PyProof.Rows
set_option Elab.async false
set_option compiler.extract_closed false
namespace Mine
open PySem.Calls PySem.Spec
/-- what is known of an object -/
inductive AO where
  | list (xs : List Value)
  | tup (xs : List Value)
  | map (f : Int → Option Value)
  | inst (C dx : Addr)
  | ns (m : Str → Option Value) (n : Nat)
  | cell (v : Option Value)
  | rng (a b c : Int)
/-- an int-keyed dict's entries bear each key once -/
def KeysOnce (es : Array DictEntry) : Prop := es.toList.Pairwise fun a b => ∀ k, Value.isInt k a.key = true → Value.isInt k b.key = false
def AO.Is : AO → Obj → Prop
  | .list xs, o => ∃ n, o = { cls := .type "list", data := .seq xs.toArray n }
  | .tup xs, o => ∃ n, o = { cls := .type "tuple", data := .seq xs.toArray n }
  | .map f, o => ∃ es ep, o = { cls := .type "dict", data := .dict es ep } ∧ IntKeys es ∧ (∀ k, findBy Value.isInt es k = f k) ∧ KeysOnce es
  | .inst C dx, o => o = instObj C dx
  | .ns m n, o => ∃ es k, o = dictOf es k ∧ StrKeys es.toArray ∧ (∀ x, nsFind es.toArray x = m x) ∧ es.length ≤ n
  | .cell v, o => o.data = .cell v
  | .rng a b c, o => ∃ t u v, o = { cls := .type "range", data := .fields #[.int a t, .int b u, .int c v] }
theorem AO.Is.nf {ao : AO} {o : Obj} (h : ao.Is o) : o.isFreed = false := by
  cases ao with
  | list xs => obtain ⟨n, rfl⟩ := h; rfl
  | tup xs => obtain ⟨n, rfl⟩ := h; rfl
  | map f => obtain ⟨es, ep, rfl, _⟩ := h; rfl
  | inst C dx => cases h; rfl
  | ns m n => obtain ⟨es, k, e, _⟩ := h; cases e; rfl
  | cell v => obtain ⟨c, d, dt, sl⟩ := o; dsimp only [AO.Is] at h; subst h; rfl
  | rng a b c => obtain ⟨t, u, v, rfl⟩ := h; rfl
abbrev Loc := Str → Option Value
abbrev Hp := Addr → Option AO
def upd (H : Hp) (a : Addr) (ao : AO) : Hp := fun b => if b = a then some ao else H b
theorem upd_self (H : Hp) (a : Addr) (ao : AO) : upd H a ao a = some ao := by unfold upd; rw [if_pos rfl]
theorem upd_ne {H : Hp} {a b : Addr} {ao : AO} (h : b ≠ a) : upd H a ao b = H b := by unfold upd; rw [if_neg h]
def setm (m : Loc) (x : Str) (v : Value) : Loc := fun y => if y = x then some v else m y
structure Fx where
  prog : Program
  w : World
  K : Frag
  p : Program
  loose : List Str
  mg : Loc
  mb : Loc
structure Grd (X : Fx) (h : Heap) : Prop where
  k : X.K.In h
  t : TopRead X.p X.loose X.mg X.mb h
def Keep (h h' : Heap) : Prop := ∀ b o, h.get? b = some o → h'.get? b = some o
theorem Keep.refl (h : Heap) : Keep h h := fun _ _ e => e
theorem Keep.trans {a b c : Heap} (x : Keep a b) (y : Keep b c) : Keep a c := fun _ _ e => y _ _ (x _ _ e)
theorem Keep.push {a b : Heap} (x : Keep a b) (o : Obj) : Keep a (b.push o) := fun _ _ e => Heap.get?_push_of_some o (x _ _ e)
theorem Grd.keep {X : Fx} {h h' : Heap} (g : Grd X h) (k : Keep h h') : Grd X h' := ⟨g.k.keeps k, g.t.keeps k⟩
def HIn (h₀ : Heap) (H : Hp) (h : Heap) : Prop := ∀ a ao, H a = some ao → ∃ o, h.get? a = some o ∧ ao.Is o ∧ h₀.get? a = none
def Same (s s' : Shared) : Prop := ∃ h tk, s' = { s with heap := h, toks := tk }
theorem Same.refl (s : Shared) : Same s s := ⟨s.heap, s.toks, rfl⟩
theorem Same.to {s s' : Shared} (x : Same s s') (h : Heap) (tk : Nat) : Same s { s' with heap := h, toks := tk } := by
  obtain ⟨_, _, rfl⟩ := x; exact ⟨h, tk, rfl⟩
theorem Same.trans {a b c : Shared} (x : Same a b) (y : Same b c) : Same a c := by
  obtain ⟨_, _, rfl⟩ := x; obtain ⟨h, tk, rfl⟩ := y; exact ⟨h, tk, rfl⟩
structure Cx where
  A : Around
  hb : Heap
  h₀ : Heap
  L : Addr
  s₀ : Shared
structure AOk (A : Around) (n : Nat) : Prop where
  h : A.handled = none
  d : A.depth + 3 * n < 1000
  u : A.units + 20 * n < 9900
theorem AOk.le {A : Around} {n k : Nat} (a : AOk A n) (h : k ≤ n) : AOk A k := ⟨a.h, by have := a.d; omega, by have := a.u; omega⟩
theorem AOk.deeper {A : Around} {n : Nat} (a : AOk A (n + 1)) (e : Env) : AOk (A.deeper e) n :=
  ⟨a.h, by have := a.d; rw [depth_deeper]; omega, by have := a.u; rw [units_deeper]; omega⟩
theorem AOk.room {A : Around} {n : Nat} (a : AOk A n) : A.depth < recursionLimit := by have := a.d; unfold recursionLimit; omega
structure St (X : Fx) (C : Cx) (m : Loc) (H : Hp) (s : Shared) : Prop where
  g : Grd X C.hb
  fr : Fr C.hb C.L s.heap m
  bb : Keep C.hb C.h₀
  kp : Keep C.h₀ s.heap
  nl : C.h₀.get? C.L = none
  hin : HIn C.h₀ H s.heap
  lh : ∀ a ao, H a = some ao → a ≠ C.L
  same : Same C.s₀ s
section
variable {X : Fx} {C : Cx} {m : Loc} {H : Hp} {s : Shared}
theorem St.grd (S : St X C m H s) : Grd X s.heap := S.g.keep S.fr.keep
theorem St.k (S : St X C m H s) : X.K.In s.heap := S.grd.k
theorem St.at (S : St X C m H s) {a : Addr} {ao : AO} (h : H a = some ao) : ∃ o, s.heap.get? a = some o ∧ ao.Is o := let ⟨o, e, i, _⟩ := S.hin a ao h; ⟨o, e, i⟩
theorem St.off (S : St X C m H s) {a : Addr} {ao : AO} (h : H a = some ao) : C.h₀.get? a = none := let ⟨_, _, _, e⟩ := S.hin a ao h; e
theorem St.offb (S : St X C m H s) {a : Addr} {ao : AO} (h : H a = some ao) : C.hb.get? a = none := by
  cases q : C.hb.get? a with
  | none => rfl
  | some o => have := S.bb _ _ q; rw [S.off h] at this; cases this
/-- all is kept -/
theorem St.kept (S : St X C m H s) {h' : Heap} {tk : Nat} (k : Keep s.heap h') : St X C m H { s with heap := h', toks := tk } where
  g := S.g
  fr := ⟨S.fr.ns.keeps k, fun b o e => k b o (S.fr.keep b o e), S.fr.above⟩
  bb := S.bb
  kp := S.kp.trans k
  nl := S.nl
  hin := fun a ao e => let ⟨o, x, i, z⟩ := S.hin a ao e; ⟨o, k _ _ x, i, z⟩
  lh := S.lh
  same := S.same.to _ _
theorem St.toks (S : St X C m H s) (tk : Nat) : St X C m H { s with toks := tk } := S.kept (h' := s.heap) (Keep.refl _)
/-- one known object turns -/
theorem St.turn (S : St X C m H s) {a : Addr} {ao ao' : AO} {o' : Obj} {h' : Heap} {tk : Nat} (ha : H a = some ao) (k : Heap.ExtBut a s.heap h') (g : h'.get? a = some o') (i : ao'.Is o') :
    St X C m (upd H a ao') { s with heap := h', toks := tk } where
  g := S.g
  fr := ⟨S.fr.ns.extBut k (Ne.symm (S.lh a ao ha)), fun b o e => k b o (fun q => by rw [q, S.offb ha] at e; cases e) (S.fr.keep b o e), S.fr.above⟩
  bb := S.bb
  kp := fun b o e => k b o (fun q => by rw [q, S.off ha] at e; cases e) (S.kp b o e)
  nl := S.nl
  hin := fun b bo e => by
    by_cases h : b = a
    · subst h; rw [upd_self] at e; cases e; exact ⟨o', g, i, S.off ha⟩
    · rw [upd_ne h] at e; obtain ⟨o, x, y, z⟩ := S.hin b bo e; exact ⟨o, k _ _ h x, y, z⟩
  lh := fun b bo e => by
    by_cases h : b = a
    · subst h; exact S.lh b ao ha
    · rw [upd_ne h] at e; exact S.lh b bo e
  same := S.same.to _ _
theorem St.none_of_size (S : St X C m H s) {b : Addr} (hb : s.heap.objs.size ≤ b) : C.h₀.get? b = none := by
  cases q : C.h₀.get? b with
  | none => rfl
  | some o => exact absurd (Heap.lt_size (S.kp b o q)) (Nat.not_lt.mpr hb)
theorem St.ne_of_size (S : St X C m H s) {b : Addr} (hb : s.heap.objs.size ≤ b) : b ≠ C.L := fun e => absurd S.fr.ns.lt (Nat.not_lt.mpr (e ▸ hb))
/-- a new object -/
theorem St.new (S : St X C m H s) {a : Addr} {ao : AO} {o : Obj} {h' : Heap} {tk : Nat} (ha : s.heap.objs.size ≤ a) (k : Keep s.heap h') (g : h'.get? a = some o) (i : ao.Is o) :
    St X C m (upd H a ao) { s with heap := h', toks := tk } where
  g := S.g
  fr := ⟨S.fr.ns.keeps k, fun b o e => k b o (S.fr.keep b o e), S.fr.above⟩
  bb := S.bb
  kp := S.kp.trans k
  nl := S.nl
  hin := fun b bo e => by
    by_cases h : b = a
    · subst h; rw [upd_self] at e; cases e; exact ⟨o, g, i, S.none_of_size ha⟩
    · rw [upd_ne h] at e; obtain ⟨o, x, y, z⟩ := S.hin b bo e; exact ⟨o, k _ _ x, y, z⟩
  lh := fun b bo e => by
    by_cases h : b = a
    · subst h; exact S.ne_of_size ha
    · rw [upd_ne h] at e; exact S.lh b bo e
  same := S.same.to _ _
theorem St.push (S : St X C m H s) {ao : AO} {o : Obj} {tk : Nat} (i : ao.Is o) : St X C m (upd H s.heap.objs.size ao) { s with heap := s.heap.push o, toks := tk } :=
  S.new (Nat.le_refl _) ((Keep.refl _).push o) (Heap.get?_push_size _ i.nf) i
theorem St.fresh (S : St X C m H s) {b : Addr} (hb : s.heap.objs.size ≤ b) : H b = none := by
  cases q : H b with
  | none => rfl
  | some ao => obtain ⟨o, e, _⟩ := S.at q; exact absurd (Heap.lt_size e) (Nat.not_lt.mpr hb)
/-- the locals turn -/
theorem St.loc (S : St X C m H s) {m' : Loc} {h' : Heap} {tk : Nat} (hn : h'.Ns C.L m') (hs : Heap.SameBut C.L s.heap h') : St X C m' H { s with heap := h', toks := tk } where
  g := S.g
  fr := S.fr.set hn hs
  bb := S.bb
  kp := fun b o e => (hs.2 b (fun q => by rw [q, S.nl] at e; cases e)).trans (S.kp b o e)
  nl := S.nl
  hin := fun a ao e => let ⟨o, x, i, z⟩ := S.hin a ao e; ⟨o, (hs.2 a (S.lh a ao e)).trans x, i, z⟩
  lh := S.lh
  same := S.same.to _ _
/-- less is known -/
theorem St.less (S : St X C m H s) {H' : Hp} (h : ∀ a ao, H' a = some ao → H a = some ao) : St X C m H' s :=
  ⟨S.g, S.fr, S.bb, S.kp, S.nl, fun a ao e => S.hin a ao (h a ao e), fun a ao e => S.lh a ao (h a ao e), S.same⟩
end
/-- the triple -/
structure W {α : Type} (X : Fx) (n : Nat) (C : Cx) (t : Sem α) (m : Loc) (H : Hp) (Q : α → Loc → Hp → Prop) : Prop where
  go : ∀ E s, AOk C.A n → St X C m H s → wpAny (model X.prog X.w) C.A t (fun v s' => ∃ m' H', St X C m' H' s' ∧ Q v m' H') E s
theorem w_of {α : Type} {X : Fx} {n : Nat} {C : Cx} {m : Loc} {H : Hp} {t : Sem α} {Q : α → Loc → Hp → Prop} (h : ∀ E s, AOk C.A n → St X C m H s → wpAny (model X.prog X.w) C.A t (fun v s' => ∃ m' H', St X C m' H' s' ∧ Q v m' H') E s) : W X n C t m H Q := ⟨h⟩
/-- the contract of a call -/
structure Spec (X : Fx) (n : Nat) (f : Value) (args : List Value) (H : Hp) (Q : Value → Hp → Prop) : Prop where
  go : ∀ A h₀ s, AOk A n → Grd X h₀ → Keep h₀ s.heap → h₀.objs.size ≤ s.heap.objs.size → HIn h₀ H s.heap →
    codeAny (model X.prog X.w) A (.call f ⟨args, []⟩) (fun r s' => ∃ v H', r = .ok (.ret v) ∧ Same s s' ∧ Keep h₀ s'.heap ∧ HIn h₀ H' s'.heap ∧ Q v H') s
section
variable {α β : Type} {X : Fx} {n : Nat} {C : Cx} {m : Loc} {H : Hp}
theorem w_mono {t : Sem α} {Q Q' : α → Loc → Hp → Prop} (h : W X n C t m H Q) (q : ∀ v m' H', Q v m' H' → Q' v m' H') : W X n C t m H Q' :=
  w_of fun E s a S => wpAny_mono (h.go E s a S) (fun _ _ ⟨m', H', S', z⟩ => ⟨m', H', S', q _ _ _ z⟩) fun _ _ e => e
/-- hide what is known as turning -/
noncomputable def hideH (h : Heap) (H : Hp) : Heap := ⟨(h.objs.mapIdx fun i o => if (H i).isSome = true then (⟨o.cls, o.dict, .freed, o.slots⟩ : Obj) else o), h.life⟩
theorem hideH_size (h : Heap) (H : Hp) : (hideH h H).objs.size = h.objs.size := by unfold hideH; simp
theorem hideH_obj (h : Heap) (H : Hp) (b : Addr) : (hideH h H).objs[b]? = (h.objs[b]?).map fun o => if (H b).isSome = true then (⟨o.cls, o.dict, .freed, o.slots⟩ : Obj) else o := by
  unfold hideH
  simp only [Array.getElem?_mapIdx]
theorem hideH_get {h : Heap} {H : Hp} {b : Addr} {o : Obj} (e : h.get? b = some o) (n : H b = none) : (hideH h H).get? b = some o := by
  obtain ⟨e1, e2⟩ := Heap.get?_some_iff.mp e
  refine Heap.get?_some_iff.mpr ⟨?_, e2⟩
  rw [hideH_obj, e1, n]; rfl
theorem hideH_of {h : Heap} {H : Hp} {b : Addr} {o : Obj} (e : (hideH h H).get? b = some o) : h.get? b = some o := by
  obtain ⟨e1, e2⟩ := Heap.get?_some_iff.mp e
  rw [hideH_obj] at e1
  obtain ⟨o', h1, h2⟩ := Option.map_eq_some_iff.mp e1
  split at h2
  · subst h2; cases e2
  · subst h2; exact Heap.get?_some_iff.mpr ⟨h1, e2⟩
theorem hideH_none {h : Heap} {H : Hp} {b : Addr} {ao : AO} (n : H b = some ao) : (hideH h H).get? b = none := by
  cases q : (hideH h H).get? b with
  | none => rfl
  | some o =>
    obtain ⟨e1, e2⟩ := Heap.get?_some_iff.mp q
    rw [hideH_obj, n] at e1
    obtain ⟨o', h1, h2⟩ := Option.map_eq_some_iff.mp e1
    simp only [Option.isSome_some, if_true] at h2
    subst h2; cases e2
theorem w_call {f : Value} {args : List Value} {k : Nat} {Q : Value → Loc → Hp → Prop} (h : Spec X k f args H (fun v H' => Q v m H')) (l : k ≤ n) : W X n C (call f args) m H Q := w_of fun E s a S => by
  have nk : ∀ b o, C.h₀.get? b = some o → H b = none := fun b o e => by
    cases q : H b with
    | none => rfl
    | some ao => rw [S.off q] at e; cases e
  have kp : Keep C.h₀ (hideH s.heap H) := fun b o e => hideH_get (S.kp b o e) (nk b o e)
  obtain ⟨oL, es, ep, hL, r⟩ := S.fr.ns
  have nL : H C.L = none := by
    cases q : H C.L with
    | none => rfl
    | some ao => exact absurd rfl (S.lh _ _ q)
  refine wpAny_call (codeAny_mono (h.go C.A (hideH s.heap H) s (a.le l) (S.g.keep (S.bb.trans kp)) (fun _ _ e => hideH_of e) (Nat.le_of_eq (hideH_size _ _)) (fun b bo e => ?_)) fun r' s' z => ?_)
  · obtain ⟨o, x, i⟩ := S.at e; exact ⟨o, x, i, hideH_none e⟩
  · obtain ⟨v, H', rfl, sm, kp', hi, q⟩ := z
    refine ⟨m, H', ⟨S.g, ⟨⟨oL, es, ep, kp' _ _ (hideH_get hL nL), r⟩, fun b o e => kp' _ _ (kp b o (S.bb _ _ e)), S.fr.above⟩, S.bb, fun b o e => kp' _ _ (kp b o e), S.nl, fun b bo e => ?_, fun b bo e eq => ?_, S.same.trans sm⟩, q⟩
    · obtain ⟨o, x, i, z⟩ := hi b bo e
      refine ⟨o, x, i, ?_⟩
      cases q' : C.h₀.get? b with
      | none => rfl
      | some o' => rw [kp b o' q'] at z; cases z
    · obtain ⟨o, x, i, z⟩ := hi b bo e
      subst eq
      rw [hideH_get hL nL] at z; cases z
/-- the heap less what turns: known objects and the locals -/
noncomputable def hideL (h : Heap) (H : Hp) (L : Addr) : Heap := hideH h (upd H L (.cell none))
/-- a stretch of the walk under a larger base: what stands beside the known objects is kept -/
theorem St.base (S : St X C m H s) : St X { C with h₀ := hideL s.heap H C.L } m H s where
  g := S.g
  fr := S.fr
  bb := fun b o e => hideH_get (S.fr.keep b o e) (by
    have h1 := S.bb _ _ e
    by_cases h : b = C.L
    · subst h; rw [S.nl] at h1; cases h1
    · rw [upd_ne h]
      cases q : H b with
      | none => rfl
      | some ao => rw [S.off q] at h1; cases h1)
  kp := fun _ _ e => hideH_of e
  nl := hideH_none (upd_self _ _ _)
  hin := fun a ao e => let ⟨o, x, i, _⟩ := S.hin a ao e; ⟨o, x, i, hideH_none (ao := ao) (by rw [upd_ne (S.lh a ao e)]; exact e)⟩
  lh := S.lh
  same := S.same
theorem St.unbase {h : Heap} {m' : Loc} {H' : Hp} {s' : Shared} (S : St X C m H s) (k : Keep C.h₀ h) (S' : St X { C with h₀ := h } m' H' s') : St X C m' H' s' where
  g := S'.g
  fr := S'.fr
  bb := S.bb
  kp := k.trans S'.kp
  nl := S.nl
  hin := fun a ao e => by
    obtain ⟨o, x, i, z⟩ := S'.hin a ao e
    refine ⟨o, x, i, ?_⟩
    cases q : C.h₀.get? a with
    | none => rfl
    | some o' => have := k _ _ q; rw [z] at this; cases this
  lh := S'.lh
  same := S'.same
theorem St.in_base (S : St X C m H s) : Keep C.h₀ (hideL s.heap H C.L) := fun b o e => hideH_get (S.kp b o e) (by
  by_cases h : b = C.L
  · subst h; rw [S.nl] at e; cases e
  · rw [upd_ne h]
    cases q : H b with
    | none => rfl
    | some ao => rw [S.off q] at e; cases e)
end
end Mine
namespace Mine
open PySem.Calls PySem.Spec
section
variable {X : Fx} {n : Nat} {C : Cx} {m : Loc} {H : Hp} {env : Env}
/-! names -/
theorem w_local {x : Str} {pos : Pos} {v : Value} {Q : Value → Loc → Hp → Prop} (hv : m x = some v) (q : Q v m H)
    (hL : env.locals = C.L := by kernel_rfl) (hk : env.scope.kind = .function := by kernel_rfl) (hl : env.kindOf x = some .local := by kernel_rfl) (hd : (x == ("__debug__" : Str)) = false := by kernel_rfl) :
    W X n C (eval (.Name x pos) env) m H Q := w_of fun _ _ _ S => wpAny_Name (wpAny_loadName_local hk hl (hL ▸ S.fr.ns) hv ⟨m, H, S, q⟩) hd
theorem w_loadLocal {x : Str} {v : Value} {Q : Value → Loc → Hp → Prop} (hv : m x = some v) (q : Q v m H)
    (hL : env.locals = C.L := by kernel_rfl) (hk : env.scope.kind = .function := by kernel_rfl) (hl : env.kindOf x = some .local := by kernel_rfl) :
    W X n C (loadName env x) m H Q := w_of fun _ _ _ S => wpAny_loadName_local hk hl (hL ▸ S.fr.ns) hv ⟨m, H, S, q⟩
theorem w_cell {x : Str} {pos : Pos} {c : Addr} {v : Value} {Q : Value → Loc → Hp → Prop} (hc : env.cells.lookup x = some c) (hv : H c = some (.cell (some v))) (q : Q v m H)
    (hk : env.scope.kind = .function := by kernel_rfl) (hl : env.kindOf x = some .cell := by kernel_rfl) (hd : (x == ("__debug__" : Str)) = false := by kernel_rfl) :
    W X n C (eval (.Name x pos) env) m H Q := w_of fun _ _ _ S => by
  obtain ⟨o, ho, i⟩ := S.at hv
  exact wpAny_Name (wpAny_loadName_cell hk hl hc ⟨o, ho, i⟩ ⟨m, H, S, q⟩) hd
theorem w_global {x : Str} {pos : Pos} {v : Value} {Q : Value → Loc → Hp → Prop} (e : nsIn X.K mainGlobals x = some (some v)) (q : Q v m H)
    (hG : env.globals = mainGlobals := by kernel_rfl) (hk : env.scope.kind = .function := by kernel_rfl) (hl : env.kindOf x = some .globalImplicit := by kernel_rfl) (hd : (x == ("__debug__" : Str)) = false := by kernel_rfl) :
    W X n C (eval (.Name x pos) env) m H Q := w_of fun _ _ _ S =>
  Name_function_global hk hl (loadGlobal_global (hG ▸ (S.g.t.g.keeps S.fr.keep)) (mg_of S.g.k S.g.t.g e) ⟨m, H, S, q⟩) hd
theorem w_builtin {x : Str} {pos : Pos} {v : Value} {Q : Value → Loc → Hp → Prop} (e : nsIn X.K mainGlobals x = some none) (hv : bootBuiltins x = some v) (q : Q v m H)
    (hx : x ≠ "__name__" := by decide) (hG : env.globals = mainGlobals := by rfl) (hB : env.builtins = builtinsNs := by rfl) (hk : env.scope.kind = .function := by rfl) (hl : env.kindOf x = some .globalImplicit := by rfl)
    (hd : (x == ("__debug__" : Str)) = false := by decide) :
    W X n C (eval (.Name x pos) env) m H Q := w_of fun _ _ _ S =>
  Name_function_global hk hl (loadGlobal_builtin (hG ▸ (S.g.t.g.keeps S.fr.keep)) (mg_none_of S.g.k S.g.t.g e) (hB ▸ (S.g.t.b.keeps S.fr.keep)) ((S.g.t.builtins x hx).trans hv) ⟨m, H, S, q⟩) hd
theorem w_store {x : Str} {v : Value} {Q : Unit → Loc → Hp → Prop} (q : Q () (setm m x v) H)
    (hL : env.locals = C.L := by kernel_rfl) (hk : env.scope.kind = .function := by kernel_rfl) (hl : env.kindOf x = some .local := by with_unfolding_all rfl) : W X n C (storeName env x v) m H Q := w_of fun _ _ _ S =>
  wpAny_storeName_local hl (hL ▸ S.fr.ns) (fun h' hn hs => ⟨_, H, S.loc (hL ▸ hn) (hL ▸ hs), q⟩) (by rw [hk]; rfl)
theorem w_storeCell {x : Str} {v : Value} {v₀ : Option Value} {c : Addr} {Q : Unit → Loc → Hp → Prop} (hc : env.cells.lookup x = some c) (hv : H c = some (.cell v₀)) (q : Q () m (upd H c (.cell (some v))))
    (hk : env.scope.kind = .function := by kernel_rfl) (hl : env.kindOf x = some .cell := by kernel_rfl) : W X n C (storeName env x v) m H Q := w_of fun _ s _ S => by
  obtain ⟨o, ho, i⟩ := S.at hv
  refine wpAny_storeName_cell hk hl hc ⟨o, ho, i⟩ fun h' hn hs => ?_
  obtain ⟨o', ho', hd'⟩ := hn
  exact ⟨m, _, S.turn (ao' := .cell (some v)) (tk := s.toks) hv hs.extBut ho' hd', q⟩
/-! constants -/
theorem w_int {i : Int} {k : Nat} {pos : Pos} {Q : Value → Loc → Hp → Prop} (q : ∀ t, Q (.int i t) m H) : W X n C (eval (.Constant (.int i) k pos) env) m H Q :=
  w_of fun _ _ _ S => wpAny_Constant_int ⟨m, H, S.toks _, q _⟩
theorem w_none {k : Nat} {pos : Pos} {Q : Value → Loc → Hp → Prop} (q : Q .none m H) : W X n C (eval (.Constant .none k pos) env) m H Q :=
  w_of fun _ _ _ S _ _ _ => ⟨m, H, S, q⟩
theorem w_bool {b : Bool} {k : Nat} {pos : Pos} {Q : Value → Loc → Hp → Prop} (q : Q (.bool b) m H) : W X n C (eval (.Constant (.bool b) k pos) env) m H Q :=
  w_of fun _ _ _ S _ _ _ => ⟨m, H, S, q⟩
/-! operators -/
theorem w_BinOp {l r : Expr} {op : Operator} {pos : Pos} {Q : Value → Loc → Hp → Prop}
    (h : W X n C (eval l env) m H (fun a m₁ H₁ => W X n C (eval r env) m₁ H₁ (fun b m₂ H₂ => W X n C (binaryOp op a b) m₂ H₂ Q))) : W X n C (eval (.BinOp l op r pos) env) m H Q :=
  w_of fun E s a S => wpAny_BinOp (wpAny_mono (h.go E s a S) (fun _ _ ⟨_, _, S₁, z⟩ => wpAny_mono (z.go E _ a S₁) (fun _ _ ⟨_, _, S₂, z⟩ => z.go E _ a S₂) fun _ _ e => e) fun _ _ e => e)
variable {a b : Int} {t u : Tok}
theorem w_add {Q : Value → Loc → Hp → Prop} (q : ∀ t, Q (.int (a + b) t) m H) : W X n C (binaryOp .Add (.int a t) (.int b u)) m H Q := w_of fun _ _ _ S => P.add_int ⟨m, H, S.toks _, q _⟩
theorem w_sub {Q : Value → Loc → Hp → Prop} (q : ∀ t, Q (.int (a - b) t) m H) : W X n C (binaryOp .Sub (.int a t) (.int b u)) m H Q := w_of fun _ _ _ S => P.sub_int ⟨m, H, S.toks _, q _⟩
theorem w_mul {Q : Value → Loc → Hp → Prop} (q : ∀ t, Q (.int (a * b) t) m H) (hm : IntMulOk a b) : W X n C (binaryOp .Mult (.int a t) (.int b u)) m H Q := w_of fun _ _ _ S => P.mul_int ⟨m, H, S.toks _, q _⟩ hm
theorem w_fdiv {Q : Value → Loc → Hp → Prop} (q : ∀ t, Q (.int (a.fdiv b) t) m H) (h0 : b ≠ 0) (hp : Builtin.divisionGoesByPylong a b = false) : W X n C (binaryOp .FloorDiv (.int a t) (.int b u)) m H Q :=
  w_of fun _ _ _ S => AutoIntOps.floordiv_1 (by simpa using h0) (by rw [hp]; decide) ⟨m, H, S.toks _, q _⟩
theorem w_fmod {Q : Value → Loc → Hp → Prop} (q : ∀ t, Q (.int (a.fmod b) t) m H) (h0 : b ≠ 0) : W X n C (binaryOp .Mod (.int a t) (.int b u)) m H Q :=
  w_of fun _ _ _ S => AutoIntOps.mod_1 (by simpa using h0) ⟨m, H, S.toks _, q _⟩
theorem w_iadd {Q : Value → Loc → Hp → Prop} (q : ∀ t, Q (.int (a + b) t) m H) : W X n C (inplaceOp .Add (.int a t) (.int b u)) m H Q := w_of fun _ _ _ S => P.iadd_int ⟨m, H, S.toks _, q _⟩
theorem w_neg {Q : Value → Loc → Hp → Prop} (q : ∀ t, Q (.int (-a) t) m H) : W X n C (unaryOp .USub (.int a t)) m H Q := w_of fun _ _ _ S => P.neg_int ⟨m, H, S.toks _, q _⟩
theorem w_UnaryOp {op : UnaryOp} {e : Expr} {pos : Pos} {Q : Value → Loc → Hp → Prop} (h : W X n C (eval e env) m H (fun v m₁ H₁ => W X n C (unaryOp op v) m₁ H₁ Q)) : W X n C (eval (.UnaryOp op e pos) env) m H Q :=
  w_of fun E s a S => wpAny_UnaryOp (wpAny_mono (h.go E s a S) (fun _ _ ⟨_, _, S₁, z⟩ => z.go E _ a S₁) fun _ _ e => e)
/-! comparisons -/
theorem w_Compare {l r : Expr} {op : CmpOp} {pos : Pos} {Q : Value → Loc → Hp → Prop}
    (h : W X n C (eval l env) m H (fun a m₁ H₁ => W X n C (eval r env) m₁ H₁ (fun b m₂ H₂ => W X n C (compareOp op a b) m₂ H₂ Q))) (hm : behindInMarks op r = false := by kernel_rfl) : W X n C (eval (.Compare l [op] [r] pos) env) m H Q :=
  w_of fun E s a S => wpAny_Compare1 (wpAny_mono (h.go E s a S) (fun _ _ ⟨_, _, S₁, z⟩ => wpAny_mono (z.go E _ a S₁) (fun _ _ ⟨_, _, S₂, z⟩ => z.go E _ a S₂) fun _ _ e => e) fun _ _ e => e) hm
theorem w_isCompare {l r : Expr} {op : CmpOp} {pos : Pos} {wh : Sem Value} {Q : Bool → Loc → Hp → Prop}
    (h : W X n C (eval l env) m H (fun a m₁ H₁ => W X n C (eval r env) m₁ H₁ (fun b m₂ H₂ => W X n C (compareOp op a b) m₂ H₂ (fun v m₃ H₃ => W X n C (truthy v) m₃ H₃ Q)))) (hm : behindInMarks op r = false := by kernel_rfl) :
    W X n C (isTrue (.Compare l [op] [r] pos) env wh) m H Q :=
  w_of fun E s a S => wpAny_isTrue_Compare1 (wpAny_mono (h.go E s a S) (fun _ _ ⟨_, _, S₁, z⟩ => wpAny_mono (z.go E _ a S₁) (fun _ _ ⟨_, _, S₂, z⟩ => wpAny_mono (z.go E _ a S₂) (fun _ _ ⟨_, _, S₃, z⟩ => z.go E _ a S₃) fun _ _ e => e) fun _ _ e => e) fun _ _ e => e) hm
theorem w_truthyB {b : Bool} {Q : Bool → Loc → Hp → Prop} (q : Q b m H) : W X n C (truthy (.bool b)) m H Q := w_of fun _ _ _ S => wpAny_truthy_bool ⟨m, H, S, q⟩
theorem w_eq {Q : Value → Loc → Hp → Prop} (q : Q (.bool (a == b)) m H) : W X n C (compareOp .Eq (.int a t) (.int b u)) m H Q := w_of fun _ _ _ S => P.eq_int ⟨m, H, S, q⟩
theorem w_ne {Q : Value → Loc → Hp → Prop} (q : Q (.bool (a != b)) m H) : W X n C (compareOp .NotEq (.int a t) (.int b u)) m H Q := w_of fun _ _ _ S => P.ne_int ⟨m, H, S, q⟩
theorem w_lt {Q : Value → Loc → Hp → Prop} (q : Q (.bool (decide (a < b))) m H) : W X n C (compareOp .Lt (.int a t) (.int b u)) m H Q := w_of fun _ _ _ S => P.lt_int ⟨m, H, S, q⟩
theorem w_gt {Q : Value → Loc → Hp → Prop} (q : Q (.bool (decide (a > b))) m H) : W X n C (compareOp .Gt (.int a t) (.int b u)) m H Q := w_of fun _ _ _ S => P.gt_int ⟨m, H, S, q⟩
theorem w_geq {Q : Value → Loc → Hp → Prop} (q : Q (.bool (decide (a ≥ b))) m H) : W X n C (compareOp .GtE (.int a t) (.int b u)) m H Q := w_of fun _ _ _ S => P.ge_int ⟨m, H, S, q⟩
/-- a test that is any other expression -/
theorem w_isValue {e : Expr} {wh : Sem Value} {Q : Bool → Loc → Hp → Prop} (h : W X n C wh m H (fun v m₁ H₁ => W X n C (truthy v) m₁ H₁ Q))
    (he : isTrue e env wh = (do let v ← wh; standAt e.pos; holding [v] (truthy v)) := by rfl) : W X n C (isTrue e env wh) m H Q := w_of fun E s a S => by
  rw [he]
  exact wpAny_bind (wpAny_mono (h.go E s a S) (fun _ _ ⟨_, _, S₁, z⟩ => wpAny_bind (wpAny_standAt (wpAny_holding (z.go E _ a S₁)))) fun _ _ e => e)
theorem w_isAnd {e : Expr} {rest : List Expr} {pos : Pos} {wh : Sem Value} {Q : Bool → Loc → Hp → Prop} (h : W X n C (allTrue .And (e :: rest) env) m H Q) : W X n C (isTrue (.BoolOp .And (e :: rest) pos) env wh) m H Q := h
theorem w_isOr {e : Expr} {rest : List Expr} {pos : Pos} {wh : Sem Value} {Q : Bool → Loc → Hp → Prop} (h : W X n C (allTrue .Or (e :: rest) env) m H Q) : W X n C (isTrue (.BoolOp .Or (e :: rest) pos) env wh) m H Q := h
theorem w_allNilAnd {Q : Bool → Loc → Hp → Prop} (q : Q true m H) : W X n C (allTrue .And [] env) m H Q := w_of fun _ _ _ S _ _ _ => ⟨m, H, S, q⟩
theorem w_allNilOr {Q : Bool → Loc → Hp → Prop} (q : Q false m H) : W X n C (allTrue .Or [] env) m H Q := w_of fun _ _ _ S _ _ _ => ⟨m, H, S, q⟩
theorem w_allAnd {e : Expr} {rest : List Expr} {Q : Bool → Loc → Hp → Prop} (h : W X n C (isTrue e env (eval e env)) m H (fun b m₁ H₁ => if b = true then W X n C (allTrue .And rest env) m₁ H₁ Q else Q false m₁ H₁)) : W X n C (allTrue .And (e :: rest) env) m H Q := w_of fun E s a S => by
  show wpAny _ _ (isTrue e env (eval e env) >>= _) _ _ _
  refine wpAny_bind (wpAny_mono (h.go E s a S) (fun b s' ⟨_, _, S₁, z⟩ => ?_) fun _ _ e => e)
  cases b with
  | true => exact (show W X n C (allTrue .And rest env) _ _ Q from z).go E s' a S₁
  | false => exact wpAny_pure ⟨_, _, S₁, z⟩
theorem w_allOr {e : Expr} {rest : List Expr} {Q : Bool → Loc → Hp → Prop} (h : W X n C (isTrue e env (eval e env)) m H (fun b m₁ H₁ => if b = true then Q true m₁ H₁ else W X n C (allTrue .Or rest env) m₁ H₁ Q)) : W X n C (allTrue .Or (e :: rest) env) m H Q := w_of fun E s a S => by
  show wpAny _ _ (isTrue e env (eval e env) >>= _) _ _ _
  refine wpAny_bind (wpAny_mono (h.go E s a S) (fun b s' ⟨_, _, S₁, z⟩ => ?_) fun _ _ e => e)
  cases b with
  | false => exact (show W X n C (allTrue .Or rest env) _ _ Q from z).go E s' a S₁
  | true => exact wpAny_pure ⟨_, _, S₁, z⟩
theorem w_IfExp {test body orelse : Expr} {pos : Pos} {Q : Value → Loc → Hp → Prop} (h : W X n C (isTrue test env (eval test env)) m H (fun b m₁ H₁ => if b = true then W X n C (eval body env) m₁ H₁ Q else W X n C (eval orelse env) m₁ H₁ Q)) :
    W X n C (eval (.IfExp test body orelse pos) env) m H Q := w_of fun E s a S => by
  show wpAny _ _ (isTrue test env (eval test env) >>= _) _ _ _
  refine wpAny_bind (wpAny_mono (h.go E s a S) (fun b s' ⟨_, _, S₁, z⟩ => ?_) fun _ _ e => e)
  cases b with
  | true => exact (show W X n C (eval body env) _ _ Q from z).go E s' a S₁
  | false => exact (show W X n C (eval orelse env) _ _ Q from z).go E s' a S₁
theorem w_isNot {a b : Value} {Q : Value → Loc → Hp → Prop} (hp : plainIs a b = true) (q : Q (.bool (!(a == b))) m H) : W X n C (compareOp .IsNot a b) m H Q := w_of fun _ _ _ S => wpAny_isNot_plain hp ⟨m, H, S, q⟩
/-! statements -/
theorem w_nil {Q : Flow → Loc → Hp → Prop} (q : Q .next m H) : W X n C (execs [] env) m H Q := w_of fun _ _ _ S => wpAny_execs_nil ⟨m, H, S, q⟩
theorem w_cons {st : Stmt} {rest : List Stmt} {Q : Flow → Loc → Hp → Prop}
    (h : W X n C (exec st env) m H (fun f m₁ H₁ => match f with | .next => W X n C (execs rest env) m₁ H₁ Q | f => Q f m₁ H₁)) : W X n C (execs (st :: rest) env) m H Q := w_of fun E s a S => by
  refine wpAny_execs_cons (wpAny_mono (h.go E s a S) (fun f s' ⟨_, _, S₁, z⟩ => ?_) fun _ _ e => e)
  cases f with
  | next => exact z.go E s' a S₁
  | brk => exact ⟨_, _, S₁, z⟩
  | cont => exact ⟨_, _, S₁, z⟩
  | ret v => exact ⟨_, _, S₁, z⟩
theorem w_If {test : Expr} {body orelse : List Stmt} {pos : Pos} {Q : Flow → Loc → Hp → Prop}
    (h : W X n C (isTrue test env (eval test env)) m H (fun b m₁ H₁ => if b = true then W X n C (execs body env) m₁ H₁ Q else W X n C (execs orelse env) m₁ H₁ Q)) : W X n C (exec (.If test body orelse pos) env) m H Q := w_of fun E s a S => by
  refine wpAny_If (wpAny_mono (h.go E s a S) (fun b s' ⟨_, _, S₁, z⟩ => ?_) fun _ _ e => e)
  cases b with
  | true => exact (show W X n C (execs body env) _ _ Q from z).go E s' a S₁
  | false => exact (show W X n C (execs orelse env) _ _ Q from z).go E s' a S₁
theorem w_Return {e : Expr} {pos : Pos} {Q : Flow → Loc → Hp → Prop} (h : W X n C (eval e env) m H (fun v m₁ H₁ => Q (.ret v) m₁ H₁)) : W X n C (exec (.Return (some e) pos) env) m H Q := w_of fun E s a S => wpAny_Return_some (h.go E s a S)
theorem w_Continue {pos : Pos} {Q : Flow → Loc → Hp → Prop} (q : Q .cont m H) : W X n C (exec (.Continue pos) env) m H Q := w_of fun _ _ _ S _ _ _ => ⟨m, H, S, q⟩
theorem w_Assign {x : Str} {pos' pos : Pos} {value : Expr} {Q : Flow → Loc → Hp → Prop} (h : W X n C (eval value env) m H (fun v m₁ H₁ => W X n C (storeName env x v) m₁ H₁ (fun _ m₂ H₂ => Q .next m₂ H₂)))
    (hs : swapsWith value (some (.Name x pos')) pos.line env = pure false := by with_unfolding_all rfl) : W X n C (exec (.Assign [.Name x pos'] value pos) env) m H Q := w_of fun E s a S =>
  wpAny_Assign_Name (wpAny_mono (h.go E s a S) (fun _ s' ⟨_, _, S₁, z⟩ => z.go E s' a S₁) fun _ _ e => e) hs
theorem w_AssignSub {o i : Expr} {pos' pos : Pos} {value : Expr} {Q : Flow → Loc → Hp → Prop}
    (h : W X n C (eval value env) m H (fun v m₁ H₁ => W X n C (eval o env) m₁ H₁ (fun ov m₂ H₂ => W X n C (eval i env) m₂ H₂ (fun iv m₃ H₃ => W X n C (setItem ov iv v) m₃ H₃ (fun _ m₄ H₄ => Q .next m₄ H₄)))))
    (hs : swapsWith value (some (.Subscript o i pos')) pos.line env = pure false := by kernel_rfl) : W X n C (exec (.Assign [.Subscript o i pos'] value pos) env) m H Q := w_of fun E s a S =>
  wpAny_Assign_Subscript (wpAny_mono (h.go E s a S) (fun _ s' ⟨_, _, S₁, z⟩ => wpAny_mono (z.go E s' a S₁) (fun _ s' ⟨_, _, S₁, z⟩ => wpAny_mono (z.go E s' a S₁) (fun _ s' ⟨_, _, S₁, z⟩ => z.go E s' a S₁) fun _ _ e => e) fun _ _ e => e) fun _ _ e => e) hs
theorem w_AugAssign {x : Str} {pos' pos : Pos} {op : Operator} {value : Expr} {Q : Flow → Loc → Hp → Prop}
    (h : W X n C (loadName env x) m H (fun old m₁ H₁ => W X n C (eval value env) m₁ H₁ (fun v m₂ H₂ => W X n C (inplaceOp op old v) m₂ H₂ (fun r m₃ H₃ => W X n C (storeName env x r) m₃ H₃ (fun _ m₄ H₄ => Q .next m₄ H₄))))) :
    W X n C (exec (.AugAssign (.Name x pos') op value pos) env) m H Q := w_of fun E s a S =>
  wpAny_AugAssign_Name (wpAny_mono (h.go E s a S) (fun _ s' ⟨_, _, S₁, z⟩ => wpAny_mono (z.go E s' a S₁) (fun _ s' ⟨_, _, S₁, z⟩ => wpAny_mono (z.go E s' a S₁) (fun _ s' ⟨_, _, S₁, z⟩ => z.go E s' a S₁) fun _ _ e => e) fun _ _ e => e) fun _ _ e => e)
end
end Mine
namespace Mine
open PySem.Calls PySem.Spec
/-! attribute dicts -/
theorem putL_strKeys {es : List DictEntry} {name : Str} {hsh : Int} {t : Tok} {v : Value} (h : StrKeys es.toArray) : StrKeys (putL name hsh (.str name t) v es).toArray := by
  have h' : ∀ e ∈ es, ∃ n t, e.key = .str n t := fun e he => h e (by simpa using he)
  have : ∀ e ∈ putL name hsh (.str name t) v es, ∃ n t, e.key = .str n t := by
    clear h
    induction es with
    | nil => intro e he; rw [putL, List.mem_singleton] at he; subst he; exact ⟨name, t, rfl⟩
    | cons a r ih =>
      intro e he
      rw [putL] at he
      split at he
      · rcases List.mem_cons.mp he with rfl | he
        · exact h' a (.head _)
        · exact h' e (.tail _ he)
      · rcases List.mem_cons.mp he with rfl | he
        · exact h' _ (.head _)
        · exact ih (fun e he => h' e (.tail _ he)) e he
  intro e he
  exact this e (by simpa using he)
theorem putL_find' {name : Str} {hsh : Int} {t : Tok} {v : Value} : ∀ {es : List DictEntry}, (∀ e ∈ es, ∃ n t, e.key = .str n t) → ∀ x, ((putL name hsh (.str name t) v es).find? (·.key.isStr x)).map (·.val) = if x = name then some v else (es.find? (·.key.isStr x)).map (·.val)
  | [], _, x => by
    rw [putL]
    by_cases h : x = name
    · subst h; simp [Value.isStr]
    · have : (name == x) = false := by simpa using fun e : name = x => h e.symm
      simp [Value.isStr, h, this]
  | a :: r, hk, x => by
    obtain ⟨n, t', e⟩ := hk a (.head _)
    have ih := putL_find' (name := name) (hsh := hsh) (t := t) (v := v) (es := r) (fun e he => hk e (.tail _ he)) x
    rw [putL]
    by_cases hn : n = name
    · subst hn
      have : a.key.isStr n = true := by rw [e]; simp [Value.isStr]
      rw [if_pos this]
      by_cases h : x = n
      · subst h; simp [this]
      · have hx : a.key.isStr x = false := by rw [e]; simpa [Value.isStr] using fun q : n = x => h q.symm
        simp [hx, h]
    · have : a.key.isStr name = false := by rw [e]; simpa [Value.isStr] using hn
      rw [this]
      simp only [Bool.false_eq_true, if_false, List.find?_cons]
      by_cases h : x = name
      · subst h; rw [this]; simpa using ih
      · cases hx : a.key.isStr x with
        | true => simp [h]
        | false => simpa [h] using ih
theorem nsFind_list (es : List DictEntry) (x : Str) : nsFind es.toArray x = (es.find? (·.key.isStr x)).map (·.val) := by
  unfold nsFind findBy; simp
theorem putL_len {name : Str} {hsh : Int} {key v : Value} : ∀ es : List DictEntry, (putL name hsh key v es).length ≤ es.length + 1
  | [] => by simp [putL]
  | a :: r => by
    have := putL_len (name := name) (hsh := hsh) (key := key) (v := v) r
    rw [putL]; split <;> simp <;> omega
theorem getL_of {es : List DictEntry} {m : Loc} (hk : StrKeys es.toArray) (hf : ∀ x, nsFind es.toArray x = m x) (name : Str) : getL name es = some (m name) := by
  unfold getL
  rw [← hf, nsFind_list]
  cases q : es.find? (·.key.isStr name) with
  | some e => rfl
  | none =>
    have : es.any (·.refKey) = false := by
      rw [List.any_eq_false]
      intro e he
      obtain ⟨n, t, h⟩ := hk e (by simpa using he)
      simp [DictEntry.refKey, h]
    simp [this]
section
variable {X : Fx} {n : Nat} {C : Cx} {m : Loc} {H : Hp} {env : Env}
theorem inst_at {s : Shared} (S : St X C m H s) {x Cl dx : Addr} {f : Loc} {k : Nat} (hx : H x = some (.inst Cl dx)) (hd : H dx = some (.ns f k)) :
    ∃ es e, InstAt s.heap x (instObj Cl dx) Cl (some (dictOf es e)) ∧ s.heap.get? dx = some (dictOf es e) ∧ StrKeys es.toArray ∧ (∀ x, nsFind es.toArray x = f x) ∧ es.length ≤ k := by
  obtain ⟨o, ho, rfl⟩ := S.at hx
  obtain ⟨o', ho', es, e, rfl, hk, hf, hl⟩ := S.at hd
  exact ⟨es, e, ⟨ho, rfl, rfl, ho'⟩, ho', hk, hf, hl⟩
/-- reading a field -/
theorem w_get {x Cl dx : Addr} {f : Loc} {k : Nat} {name : Str} {v : Value} {ex : Bool} {Q : Value → Loc → Hp → Prop} (hx : H x = some (.inst Cl dx)) (hd : H dx = some (.ns f k)) (hv : f name = some v)
    (hg : plainGet X.K Cl name = true) (hh : hasDictIn X.K Cl = true) (ha : findIn X.K (.ref Cl) name = some none) (hn : handedIn v = true) (q : Q v m H) :
    W X n C (getAttr (.ref x) name ex) m H Q := w_of fun E s a S => by
  obtain ⟨es, e, I, _, hk, hf, _⟩ := inst_at S hx hd
  exact get_own S.fr S.g.k I hg hh ha rfl (by rw [getL_of hk hf, hv]) hn ⟨m, H, S.toks _, q⟩
/-- the method of an object -/
theorem w_method {x Cl dx g : Addr} {f : Loc} {k : Nat} {name : Str} {pl : Sem Bool} {Q : Value × List Value → Loc → Hp → Prop} (hx : H x = some (.inst Cl dx)) (hd : H dx = some (.ns f k)) (hv : f name = none)
    (hg : plainGet X.K Cl name = true) (hm : findIn X.K (.ref Cl) name = some (some (.ref g))) (ht : isFn X.K (.ref g) = true) (q : Q (.ref g, [.ref x]) m H) :
    W X n C (getMethod (.ref x) name pl) m H Q := w_of fun E s a S => by
  obtain ⟨es, e, I, _, hk, hf, _⟩ := inst_at S hx hd
  exact method_inst S.fr S.g.k I hg hm ht (by rw [getL_of hk hf, hv]) ⟨m, H, S, q⟩
/-- writing a field -/
theorem w_set {x Cl dx : Addr} {f : Loc} {k : Nat} {name : Str} {v : Value} {Q : Unit → Loc → Hp → Prop} (hx : H x = some (.inst Cl dx)) (hd : H dx = some (.ns f k)) (hk : k ≤ 900)
    (hs : findIn X.K (.ref Cl) "__setattr__" = some (some (.builtin "object.__setattr__"))) (hp : plainOver X.K Cl = true) (ht : takerIn X.K Cl name = some none) (hh : hasDictIn X.K Cl = true)
    (q : Q () m (upd H dx (.ns (setm f name v) (k + 1)))) : W X n C (setAttr (.ref x) name v) m H Q := w_of fun E s a S => by
  obtain ⟨es, e, I, D, sk, hf, hl⟩ := inst_at S hx hd
  have X₀ := S.k
  refine set_plain X₀ I hs ?_
  refine osa_open (s := { s with toks := s.toks + 1 }) X₀ I hp ht fun b => ?_
  obtain ⟨cd, hc, hd'⟩ := any_some hh
  have D' : (s.heap.update dx (Obj.putName name (PyData.keyHash X.w.params name) (.str name (s.toks + 1)) v)).get? dx = some (dictOf (putL name (PyData.keyHash X.w.params name) (.str name (s.toks + 1)) v es) (putN name es e)) := by
    rw [Heap.get?_update_self _ D (by rw [putName_dict]; rfl), putName_dict]
  refine wpAny_bind (wpAny_pure (wpAny_bind (wpAny_bind (wpAny_loadPart I.at_ (wpAny_bind (looks_clsIn X₀ hc _ _ _ { s with toks := s.toks + 1 } (fun _ _ e => e) ?_))))))
  rw [hd']
  refine wpAny_pure (a := some dx) (wpAny_bind (wpAny_pure (wpAny_bind ?_)))
  unfold nsSet
  refine wpAny_bind (wpAny_bind (wpAny_askSetting (wpAny_pure (wpAny_bind (wpAny_mkText (wpAny_bind (wpAny_loadPart D ?_)))))))
  have c : (!es.toArray.any (·.key.isStr name) && es.toArray.any (·.refKey)) = false := by
    have : es.toArray.any (·.refKey) = false := by
      rw [Array.any_eq_false']; intro e he; obtain ⟨n, t, h⟩ := sk e he; simp [DictEntry.refKey, h]
    rw [this, Bool.and_false]
  dsimp only
  rw [aRefKeyMayBeTheName_at, c]
  refine wpAny_updatePart D ?_
  refine wpAny_bind (wpAny_lookBehind D' (pastItsLine_dict (by have := putL_len (name := name) (hsh := PyData.keyHash X.w.params name) (key := .str name (s.toks + 1)) (v := v) es; rw [List.size_toArray, sizeLine_eq]; omega)) ?_)
  refine wpAny_pure ?_
  refine ⟨m, _, S.turn (ao' := .ns (setm f name v) (k + 1)) hd (Heap.SameBut.update ..).extBut D' ⟨_, _, rfl, putL_strKeys sk, fun y => ?_, ?_⟩, q⟩
  · rw [nsFind_list, putL_find' (fun e he => sk e (by simpa using he)), ← nsFind_list, hf]; rfl
  · have := putL_len (name := name) (hsh := PyData.keyHash X.w.params name) (key := .str name (s.toks + 1)) (v := v) es; omega
theorem w_AssignAttr {o : Expr} {attr : Str} {pos' pos : Pos} {value : Expr} {Q : Flow → Loc → Hp → Prop}
    (h : W X n C (eval value env) m H (fun v m₁ H₁ => W X n C (eval o env) m₁ H₁ (fun ov m₂ H₂ => W X n C (setAttr ov attr v) m₂ H₂ (fun _ m₃ H₃ => Q .next m₃ H₃))))
    (hs : swapsWith value (some (.Attribute o attr pos')) pos.line env = pure false := by kernel_rfl) : W X n C (exec (.Assign [.Attribute o attr pos'] value pos) env) m H Q := w_of fun E s a S =>
  plainObj_wpAny_Assign_Attribute (wpAny_mono (h.go E s a S) (fun _ s' ⟨_, _, S₁, z⟩ => wpAny_mono (z.go E s' a S₁) (fun _ s' ⟨_, _, S₁, z⟩ => z.go E s' a S₁) fun _ _ e => e) fun _ _ e => e) hs
/-! calls -/
theorem w_Attribute {value : Expr} {attr : Str} {pos : Pos} {Q : Value → Loc → Hp → Prop} (h : W X n C (eval value env) m H (fun o m₁ H₁ => W X n C (getAttr o attr true) m₁ H₁ Q))
    (he : eval (.Attribute value attr pos) env = (do
      let o ← eval value env
      standAt pos.atName
      let r ← holding [o] (getAttr o attr true)
      letTemporaryGo value o r
      pure r) := by kernel_rfl) : W X n C (eval (.Attribute value attr pos) env) m H Q := w_of fun E s a S =>
  Attribute_any_ (wpAny_mono (h.go E s a S) (fun _ s' ⟨_, _, S₁, z⟩ => z.go E s' a S₁) fun _ _ e => e) he
theorem w_Call {func : Expr} {args : List Expr} {pos : Pos} {Q : Value → Loc → Hp → Prop}
    (h : W X n C (eval func env) m H (fun f m₁ H₁ => W X n C (callWith pos f [] (backTo pos (starEach args env)) []) m₁ H₁ Q))
    (he : eval (.Call func args [] pos) env = (do callWith pos (← eval func env) [] (backTo pos (starEach args env)) (backToKw pos (keywordEach [] env))) := by kernel_rfl) :
    W X n C (eval (.Call func args [] pos) env) m H Q := w_of fun E s a S => Call_ (wpAny_mono (h.go E s a S) (fun _ s' ⟨_, _, S₁, z⟩ => z.go E s' a S₁) fun _ _ e => e) he
theorem w_MCall {o : Expr} {name : Str} {apos pos : Pos} {args : List Expr} {pl : Sem Bool} {Q : Value → Loc → Hp → Prop}
    (h : W X n C (eval o env) m H (fun ov m₁ H₁ => W X n C (getMethod ov name pl) m₁ H₁ (fun fx m₂ H₂ => W X n C (callWith pos fx.1 fx.2 (backTo pos (starEach args env)) []) m₂ H₂ Q)))
    (he : eval (.Call (.Attribute o name apos) args [] pos) env = (do
      let ov ← eval o env
      standAt apos.atName
      let (f, first) ← holding [ov] (getMethod ov name pl)
      callWith pos f first (backTo pos (starEach args env)) []) := by with_unfolding_all rfl) :
    W X n C (eval (.Call (.Attribute o name apos) args [] pos) env) m H Q := w_of fun E s a S =>
  MethodCall_ (wpAny_mono (h.go E s a S) (fun _ s' ⟨_, _, S₁, z⟩ => wpAny_mono (z.go E s' a S₁) (fun _ s' ⟨_, _, S₁, z⟩ => z.go E s' a S₁) fun _ _ e => e) fun _ _ e => e) he
theorem w_args0 {pos : Pos} {Q : List Value → Loc → Hp → Prop} (q : Q [] m H) : W X n C (spliced (backTo pos (starEach [] env))) m H Q := w_of fun _ _ _ S => spliced_none ⟨m, H, S, q⟩
theorem w_args {pos : Pos} {e : Expr} {rest : List Expr} {Q : List Value → Loc → Hp → Prop}
    (h : W X n C (eval e env) m H (fun v m₁ H₁ => W X n C (spliced (backTo pos (starEach rest env))) m₁ H₁ (fun vs m₂ H₂ => Q (v :: vs) m₂ H₂)))
    (he : starEach (e :: rest) env = (false, eval e env) :: starEach rest env := by kernel_rfl) : W X n C (spliced (backTo pos (starEach (e :: rest) env))) m H Q := w_of fun E s a S =>
  spliced_more (wpAny_mono (h.go E s a S) (fun _ s' ⟨_, _, S₁, z⟩ => z.go E s' a S₁) fun _ _ e => e) he
theorem w_callK {pos : Pos} {f : Value} {first : List Value} {e : Expr} {rest : List Expr} {Q : Value → Loc → Hp → Prop} (hk : keepIn X.K f = true)
    (h : W X n C (spliced (backTo pos (starEach (e :: rest) env))) m H (fun vs m₁ H₁ => W X n C (call f (first ++ vs)) m₁ H₁ Q))
    (he : starEach (e :: rest) env = (false, eval e env) :: starEach rest env := by rfl) (hplain : (backTo pos (starEach rest env)).any (·.1) = false := by rfl) :
    W X n C (callWith pos f first (backTo pos (starEach (e :: rest) env)) []) m H Q := w_of fun E s a S =>
  callWith_K (h₀ := C.hb) S.g.k hk (wpAny_mono (h.go E s a S) (fun _ s' ⟨_, _, S₁, z⟩ => ⟨S₁.k, z.go E s' a S₁⟩) fun _ _ e => e) he hplain
theorem w_callK0 {pos : Pos} {f : Value} {first : List Value} {Q : Value → Loc → Hp → Prop} (hk : keepIn X.K f = true) (h : W X n C (call f (first ++ [])) m H Q) :
    W X n C (callWith pos f first (backTo pos (starEach [] env)) []) m H Q := w_of fun E s a S => callWith_K0 S.k hk (h.go E s a S)
theorem keeper_plain {f : Value} (hf : ∀ a, f ≠ .ref a) {M : Model} (h : Heap) (_ : True) : ∃ k, (k = Keeper.frame ∨ k = Keeper.machine ∨ k = Keeper.boundFrame) ∧ Looks M h (keeperOf f) k :=
  ⟨.machine, .inr (.inl rfl), Looks.of_pure (by cases f <;> first | rfl | exact absurd rfl (hf _))⟩
theorem w_callB {pos : Pos} {f : Value} {first : List Value} {e : Expr} {rest : List Expr} {Q : Value → Loc → Hp → Prop} (hf : ∀ a, f ≠ .ref a)
    (h : W X n C (spliced (backTo pos (starEach (e :: rest) env))) m H (fun vs m₁ H₁ => W X n C (call f (first ++ vs)) m₁ H₁ Q))
    (he : starEach (e :: rest) env = (false, eval e env) :: starEach rest env := by rfl) (hplain : (backTo pos (starEach rest env)).any (·.1) = false := by rfl) :
    W X n C (callWith pos f first (backTo pos (starEach (e :: rest) env)) []) m H Q := w_of fun E s a S => by
  have z := h.go E s a S
  rw [he] at z ⊢
  exact callWith_of (P := fun _ => True) (by show ((false || (backTo pos (starEach rest env)).any (·.1)) || false) = false; rw [hplain]; rfl) (keeper_plain hf)
    (evalArgs_plain (wpAny_mono z (fun _ s' ⟨_, _, S₁, z⟩ => ⟨trivial, z.go E s' a S₁⟩) fun _ _ e => e))
theorem w_callB0 {pos : Pos} {f : Value} {first : List Value} {Q : Value → Loc → Hp → Prop} (hf : ∀ a, f ≠ .ref a) (h : W X n C (call f (first ++ [])) m H Q) :
    W X n C (callWith pos f first (backTo pos (starEach [] env)) []) m H Q := w_of fun E s a S => callWith_of (P := fun _ => True) rfl (keeper_plain hf) (evalArgs_nil3 ⟨trivial, h.go E s a S⟩)
/-! methods of lists and dicts -/
theorem w_mList {l : Addr} {xs : List Value} {name : Str} {id : String} {pl : Sem Bool} {Q : Value × List Value → Loc → Hp → Prop} (hl : H l = some (.list xs)) (slot : Slot "list" name id) (hty : typeOf (.builtin id) = pure (.type "method_descriptor"))
    (q : Q (.builtin id, [.ref l]) m H) : W X n C (getMethod (.ref l) name pl) m H Q := w_of fun E s a S => by
  obtain ⟨o, ho, k, rfl⟩ := S.at hl
  exact getMethod_builtin ⟨_, ho, rfl⟩ PySem.F.plainAttrs_list slot hty (fun a e => by cases e; exact ⟨_, ho, rfl⟩) ⟨m, H, S, q⟩
theorem w_mDict {l : Addr} {f : Int → Option Value} {name : Str} {id : String} {pl : Sem Bool} {Q : Value × List Value → Loc → Hp → Prop} (hl : H l = some (.map f)) (slot : Slot "dict" name id) (hty : typeOf (.builtin id) = pure (.type "method_descriptor"))
    (q : Q (.builtin id, [.ref l]) m H) : W X n C (getMethod (.ref l) name pl) m H Q := w_of fun E s a S => by
  obtain ⟨o, ho, es, ep, rfl, _⟩ := S.at hl
  exact getMethod_builtin ⟨_, ho, rfl⟩ PySem.F.plainAttrs_dict slot hty (fun a e => by cases e; exact ⟨_, ho, rfl⟩) ⟨m, H, S, q⟩
theorem listUpd {h : Heap} {l : Addr} {xs ys : List Value} {k : Nat} (ho : h.get? l = some { cls := .type "list", data := .seq xs.toArray k }) (f : Array Value → Array Value) (hf : f xs.toArray = ys.toArray) :
    ∃ o', (h.update l (Obj.mapSeq f)).get? l = some o' ∧ (AO.list ys).Is o' := by
  have q := PySem.IsL.update ho f
  rw [hf] at q
  exact ⟨_, q, _, rfl⟩
theorem w_append {l : Addr} {xs : List Value} {x : Value} {Q : Value → Loc → Hp → Prop} (hl : H l = some (.list xs)) (hz : xs.length ≤ sizeLine) (q : Q .none m (upd H l (.list (xs ++ [x])))) :
    W X n C (call (.builtin "list.append") [.ref l, x]) m H Q := w_of fun E s a S => by
  obtain ⟨o, ho, k, rfl⟩ := S.at hl
  obtain ⟨o', g, i⟩ := listUpd (ys := xs ++ [x]) ho (·.push x) (by simp)
  exact call_meets PySem.F.slot_list_append ⟨_, ho, rfl⟩ PySem.F.entry_list_append (PySem.F.args_list_append_2 _ _) (PySem.list_append l xs.toArray k x (by simpa using hz))
    ⟨ho, m, _, S.turn (tk := s.toks) hl (Heap.SameBut.update ..).extBut g i, q⟩
theorem w_pop {l : Addr} {xs : List Value} {x : Value} {Q : Value → Loc → Hp → Prop} (hl : H l = some (.list (xs ++ [x]))) (hz : xs.length < sizeLine) (q : Q x m (upd H l (.list xs))) :
    W X n C (call (.builtin "list.pop") [.ref l]) m H Q := w_of fun E s a S => by
  obtain ⟨o, ho, k, rfl⟩ := S.at hl
  obtain ⟨o', g, i⟩ := listUpd (ys := xs) ho (fun ys => ys.eraseIdxIfInBounds ((xs ++ [x]).toArray.size - 1)) (by
    apply Array.ext'
    simp [Array.eraseIdxIfInBounds, List.eraseIdx_append_of_length_le])
  exact call_meets PySem.F.slot_list_pop ⟨_, ho, rfl⟩ PySem.F.entry_list_pop (PySem.F.args_list_pop_1 _) (PySem.MeetsSeq.list_pop_last l (xs ++ [x]).toArray k x (by simp) (by simp; omega))
    ⟨ho, m, _, S.turn (tk := s.toks) hl (Heap.SameBut.update ..).extBut g i, q⟩
end
end Mine
namespace Mine
open PySem.Calls PySem.Spec
/-! int-keyed dicts -/
theorem nodup_len : ∀ (B : Nat) (l : List Nat), l.Nodup → (∀ x ∈ l, x < B) → l.length ≤ B
  | 0, l, _, h => by
    cases l with
    | nil => simp
    | cons a r => exact absurd (h a (.head _)) (Nat.not_lt_zero _)
  | B + 1, l, nd, h => by
    by_cases hm : B ∈ l
    · have e := nodup_len B (l.erase B) (nd.erase B) (fun x hx => by
        have h1 := h x (List.mem_of_mem_erase hx)
        have h2 : x ≠ B := fun e => by
          rw [nd.mem_erase_iff] at hx
          exact hx.1 e
        omega)
      rw [List.length_erase_of_mem hm] at e
      omega
    · have := nodup_len B l nd fun x hx => by
        have h1 := h x hx
        have : x ≠ B := fun e => hm (e ▸ hx)
        omega
      omega
theorem keys_len {es : Array DictEntry} {f : Int → Option Value} {B : Nat} (hk : IntKeys es) (hf : ∀ k, findBy Value.isInt es k = f k) (ho : KeysOnce es) (hB : ∀ k, f k ≠ none → 0 ≤ k ∧ k < B) : es.size ≤ B := by
  obtain ⟨l⟩ := es
  let key : DictEntry → Nat := fun e => match e.key with | .int k _ => k.toNat | _ => 0
  have hin : ∀ e ∈ l, ∃ k t, e.key = .int k t ∧ 0 ≤ k ∧ k < B := fun e he => by
    obtain ⟨k, t, h1, _⟩ := hk e (by simpa using he)
    refine ⟨k, t, h1, hB k ?_⟩
    rw [← hf k]
    intro hn
    simp only [findBy, Option.map_eq_none_iff, List.find?_toArray] at hn
    have := List.find?_eq_none.mp hn e he
    rw [h1] at this
    simp [Value.isInt] at this
  have nd : (l.map key).Nodup := by
    have ho' : l.Pairwise fun a b => ∀ k, Value.isInt k a.key = true → Value.isInt k b.key = false := ho
    clear hf ho hB hk
    unfold List.Nodup
    rw [List.pairwise_map]
    refine List.Pairwise.imp_of_mem (fun {a b} ha hb h => ?_) ho'
    obtain ⟨k, t, h1, h2, h3⟩ := hin a ha
    obtain ⟨k', t', h1', h2', h3'⟩ := hin b hb
    intro e
    have e' : k.toNat = k'.toNat := by simpa only [key, h1, h1'] using e
    have : k = k' := by omega
    subst this
    have := h k (by rw [h1]; simp [Value.isInt])
    rw [h1'] at this
    simp [Value.isInt] at this
  have := nodup_len B (l.map key) nd fun x hx => by
    obtain ⟨e, he, rfl⟩ := List.mem_map.mp hx
    obtain ⟨k, t, h1, h2, h3⟩ := hin e he
    simp only [key, h1]; omega
  simpa using this
theorem once_modify {es : Array DictEntry} (h : KeysOnce es) (i : Nat) (v : Value) : KeysOnce (es.modify i fun e => { e with val := v }) := by
  obtain ⟨l⟩ := es
  have h' : l.Pairwise fun a b => ∀ k, Value.isInt k a.key = true → Value.isInt k b.key = false := h
  show ((l.toArray.modify i _).toList).Pairwise _
  rw [List.modify_toArray]
  show (l.modify i _).Pairwise _
  have : (l.modify i fun e => ({ e with val := v } : DictEntry)).map (·.key) = l.map (·.key) := by
    clear h h'
    induction l generalizing i with
    | nil => cases i <;> rfl
    | cons a r ih => cases i with
      | zero => rfl
      | succ i => simp only [List.modify_succ_cons, List.map_cons, ih]
  have q : ((l.modify i fun e => ({ e with val := v } : DictEntry)).map (·.key)).Pairwise fun a b => ∀ k, Value.isInt k a = true → Value.isInt k b = false := by
    rw [this, List.pairwise_map]; exact h'
  rwa [List.pairwise_map] at q
theorem once_push {es : Array DictEntry} (h : KeysOnce es) {k : Int} {t : Tok} {v : Value} {hs : Int} (hn : es.findIdx? (fun e => Value.isInt k e.key) = none) : KeysOnce (es.push ⟨hs, .int k t, v⟩) := by
  obtain ⟨l⟩ := es
  show (l.toArray.push _).toList.Pairwise _
  rw [List.push_toArray]
  show (l ++ [_]).Pairwise _
  rw [List.pairwise_append]
  refine ⟨h, List.pairwise_singleton _ _, fun a ha b hb => ?_⟩
  rw [List.mem_singleton] at hb
  subst hb
  intro k' hk'
  have := Array.findIdx?_eq_none_iff.mp hn a (by simpa using ha)
  show (k == k') = false
  cases q : k == k' with
  | false => rfl
  | true =>
    have : k = k' := by simpa using q
    subst this
    rw [this] at hk'
    cases hk'
section
variable {X : Fx} {n : Nat} {C : Cx} {m : Loc} {H : Hp} {env : Env}
theorem w_dget {d : Addr} {f : Int → Option Value} {k : Int} {t : Tok} {dflt : Value} {Q : Value → Loc → Hp → Prop} (hd : H d = some (.map f)) (q : Q ((f k).getD dflt) m H) :
    W X n C (call (.builtin "dict.get") [.ref d, .int k t, dflt]) m H Q := w_of fun E s a S => by
  obtain ⟨o, ho, es, ep, rfl, hk, hf, _⟩ := S.at hd
  have hm : s.heap.IntMap d f := ⟨_, es, ep, ho, rfl, rfl, hk, hf⟩
  refine wpAny_call_entry PySem.F.slot_dict_get hm.typeIs PySem.F.entry_dict_get ?_ (PySem.F.args_dict_get_3 _ _ _)
  show wpAny _ _ (dictGet d (.int k t) >>= _) _ _ s
  refine wpAny_bind (wpAny_dictGet_int hm ?_)
  cases hv : f k with
  | some v =>
    rw [hv] at q
    exact wpAny_pure ⟨v, rfl, m, H, S.toks _, q⟩
  | none =>
    rw [hv] at q
    show wpAny _ _ (Builtin.Dict.missed d (.int k t) >>= _) _ _ _
    exact wpAny_bind (wpAny_missed_int (wpAny_pure ⟨dflt, rfl, m, H, S.toks _, q⟩))
theorem w_dset {d : Addr} {f : Int → Option Value} {k : Int} {t : Tok} {v : Value} {B : Nat} {Q : Unit → Loc → Hp → Prop} (hd : H d = some (.map f)) (hB : ∀ k, f k ≠ none → 0 ≤ k ∧ k < (B : Int)) (hz : B ≤ sizeLine)
    (q : Q () m (upd H d (.map fun x => if x = k then some v else f x))) : W X n C (setItem (.ref d) (.int k t) v) m H Q := w_of fun E s a S => by
  obtain ⟨o, ho, es, ep, rfl, hk, hf, ho1⟩ := S.at hd
  have hm : s.heap.IntMap d f := ⟨_, es, ep, ho, rfl, rfl, hk, hf⟩
  have hsz : es.size ≤ sizeLine := Nat.le_trans (keys_len hk hf ho1 hB) hz
  unfold setItem
  try with_reducible refine wpAny_holding ?_
  first | refine wpAny_bind (wpAny_pure ?_) | skip
  refine wpAny_bind (wpAny_sequenceKey hm.typeIs (by decide) ?_)
  refine wpAny_bind (wpAny_callSpecial?_slot (name := Str.ofString "__setitem__") hm.typeIs slot_dict_setitem
    (wpAny_call_entry slot_dict_setitem hm.typeIs entry_dict_setitem ?_ (args_dict_setitem _ _ _)))
  show wpAny _ _ (Builtin.Dict.notOrdered "__setitem__" ⟨[.ref d, .int k t, v], []⟩ >>= _) _ _ s
  refine wpAny_bind (wpAny_notOrdered_dict hm.typeIs ?_)
  show wpAny _ _ (dictSet d (.int k t) v >>= _) _ _ s
  refine wpAny_bind ?_
  have fin : ∀ (g : Obj → Obj) (es' : Array DictEntry) (ep' : Nat), g { cls := .type "dict", data := .dict es ep } = { cls := .type "dict", data := .dict es' ep' } → IntKeys es' → (∀ x, findBy Value.isInt es' x = if x = k then some v else f x) → KeysOnce es' →
      ∃ m' H', St X C m' H' { s with heap := s.heap.update d g, toks := s.toks + 1 } ∧ Q () m' H' := fun g es' ep' e1 e2 e3 e4 =>
    ⟨m, _, S.turn (ao' := .map fun x => if x = k then some v else f x) hd (Heap.SameBut.update ..).extBut (Heap.get?_update_self _ ho (by rw [e1]; rfl)) ⟨es', ep', e1, e2, e3, e4⟩, q⟩
  unfold dictSet
  try with_reducible refine wpAny_holding ?_
  refine wpAny_bind (wpAny_pyHash_int ?_)
  unfold dictSetHashed
  try with_reducible refine wpAny_holding ?_
  refine wpAny_bind (wpAny_dictFind_int (s := { s with toks := s.toks + 1 }) ho rfl hk ?_)
  cases hi : es.findIdx? fun e => Value.isInt k e.key with
  | some i =>
    refine wpAny_bind (wpAny_rule (wpAny_bind (wpAny_updateDict (s := { s with toks := s.toks + 1 }) ho rfl (wpAny_point ?_))))
    refine wpAny_pure ⟨.none, rfl, wpAny_pure ?_⟩
    exact fin _ _ _ rfl (hk.modify _ _) (fun x => by rw [findBy_modify Value.isInt Value.isInt_inj es k x v i hi, hf]) (once_modify ho1 _ _)
  | none =>
    refine wpAny_bind (wpAny_rule (wpAny_updateDictKeys (hz := hsz) (s := { s with toks := s.toks + 1 }) ho rfl ?_))
    refine wpAny_pure ⟨.none, rfl, wpAny_pure ?_⟩
    exact fin _ _ _ rfl (hk.push _ _ _) (fun x => by
      rw [findBy_push Value.isInt es k x _ _ v (fun y => by
        simp only [Value.isInt]
        by_cases h : y = k
        · subst h; simp
        · have : ¬ k = y := fun e => h e.symm
          simp [h, this]) hi, hf]) (once_push ho1 hi)
theorem w_Dict {pos : Pos} {Q : Value → Loc → Hp → Prop} (q : ∀ d, H d = none → Q (.ref d) m (upd H d (.map fun _ => none))) : W X n C (eval (.Dict [] [] pos) env) m H Q := w_of fun E s a S =>
  wpAny_Dict_empty ⟨m, _, S.push (ao := .map fun _ => none) ⟨#[], 0, rfl, fun _ he => by simp at he, fun _ => rfl, List.Pairwise.nil⟩, q _ (S.fresh (Nat.le_refl _))⟩
/-! lists and tuples -/
theorem St.isList {s : Shared} (S : St X C m H s) {l : Addr} {xs : List Value} (hl : H l = some (.list xs)) : s.heap.IsList l xs.toArray := by
  obtain ⟨o, ho, k, rfl⟩ := S.at hl; exact ⟨_, ho, rfl, k, rfl⟩
theorem St.isTup {s : Shared} (S : St X C m H s) {l : Addr} {xs : List Value} (hl : H l = some (.tup xs)) : IsTup s.heap l xs.toArray := by
  obtain ⟨o, ho, k, rfl⟩ := S.at hl; exact ⟨_, ho, rfl, k, rfl⟩
theorem w_lget {l : Addr} {xs : List Value} {k : Int} {t : Tok} {x : Value} {Q : Value → Loc → Hp → Prop} (hl : H l = some (.list xs)) (h0 : 0 ≤ k) (hz : k < 2 ^ 63) (hx : xs[k.toNat]? = some x) (q : Q x m H) :
    W X n C (getItem (.ref l) (.int k t)) m H Q := w_of fun _ _ _ S => wpAny_getItem_list (S.isList hl) h0 hz (by simpa using hx) ⟨m, H, S, q⟩
theorem w_tget {l : Addr} {xs : List Value} {k : Int} {t : Tok} {x : Value} {Q : Value → Loc → Hp → Prop} (hl : H l = some (.tup xs)) (h0 : 0 ≤ k) (hz : k < 2 ^ 63) (hx : xs[k.toNat]? = some x) (q : Q x m H) :
    W X n C (getItem (.ref l) (.int k t)) m H Q := w_of fun _ _ _ S => PyProof.Rows.getItem_tuple (j := k.toNat) (S.isTup hl) (by omega) hz (by
      obtain ⟨j, rfl⟩ := Int.eq_ofNat_of_zero_le h0
      have : j < xs.length := by
        have := List.getElem?_eq_some_iff.mp hx
        exact this.1
      simp [seqIndex?]; omega) (by simpa using hx) ⟨m, H, S, q⟩
theorem w_lset {l : Addr} {xs : List Value} {k : Int} {t : Tok} {x : Value} {Q : Unit → Loc → Hp → Prop} (hl : H l = some (.list xs)) (h0 : 0 ≤ k) (hz : k < 2 ^ 63) (hx : k < xs.length) (q : Q () m (upd H l (.list (xs.set k.toNat x)))) :
    W X n C (setItem (.ref l) (.int k t) x) m H Q := w_of fun E s a S => by
  obtain ⟨o, ho, e, rfl⟩ := S.at hl
  obtain ⟨o', g, i⟩ := listUpd (ys := xs.set k.toNat x) ho (·.setIfInBounds k.toNat x) (by simp)
  exact ki_setAt ho h0 hz (by simpa using hx) ⟨m, _, S.turn (tk := s.toks) hl (Heap.SameBut.update ..).extBut g i, q⟩
theorem w_Sub {value slice : Expr} {pos : Pos} {Q : Value → Loc → Hp → Prop} (h : W X n C (eval value env) m H (fun o m₁ H₁ => W X n C (eval slice env) m₁ H₁ (fun i m₂ H₂ => W X n C (subscriptTail value slice o i) m₂ H₂ Q))) :
    W X n C (eval (.Subscript value slice pos) env) m H Q := w_of fun E s a S =>
  Subscript_ (wpAny_mono (h.go E s a S) (fun _ s' ⟨_, _, S₁, z⟩ => wpAny_mono (z.go E s' a S₁) (fun _ s' ⟨_, _, S₁, z⟩ => z.go E s' a S₁) fun _ _ e => e) fun _ _ e => e)
theorem w_subL {value slice : Expr} {l : Addr} {xs : List Value} {k : Int} {t : Tok} {x : Value} {Q : Value → Loc → Hp → Prop} (hl : H l = some (.list xs)) (h0 : 0 ≤ k) (hz : k < 2 ^ 63) (hx : xs[k.toNat]? = some x) (q : Q x m H)
    (hs : subscripted slice false (.ref l) (.int k t) = operate [.ref l, .int k t] (getItem (.ref l) (.int k t)) := by with_unfolding_all rfl) :
    W X n C (subscriptTail value slice (.ref l) (.int k t)) m H Q := w_of fun E s a S =>
  tail_any (S.isList hl).typeIs slot_list_getitem.lookup ((w_lget hl h0 hz hx q).go E s a S) hs
theorem w_subT {value slice : Expr} {l : Addr} {xs : List Value} {k : Int} {t : Tok} {x : Value} {Q : Value → Loc → Hp → Prop} (hl : H l = some (.tup xs)) (h0 : 0 ≤ k) (hz : k < 2 ^ 63) (hx : xs[k.toNat]? = some x) (q : Q x m H)
    (hs : subscripted slice false (.ref l) (.int k t) = operate [.ref l, .int k t] (getItem (.ref l) (.int k t)) := by with_unfolding_all rfl) :
    W X n C (subscriptTail value slice (.ref l) (.int k t)) m H Q := w_of fun E s a S =>
  tail_any (S.isTup hl).typeIs slot_tuple_getitem.lookup ((w_tget hl h0 hz hx q).go E s a S) hs
theorem w_List {elts : List Expr} {pos : Pos} {Q : Value → Loc → Hp → Prop} (h : W X n C (spliced (backTo pos (starEach elts env))) m H (fun vs m₁ H₁ => vs.length ≤ sizeLine ∧ ∀ d, H₁ d = none → Q (.ref d) m₁ (upd H₁ d (.list vs)))) :
    W X n C (eval (.List elts pos) env) m H Q := w_of fun E s a S =>
  List_ (wpAny_mono (h.go E s a S) (fun vs s' ⟨m₁, _, S₁, hz, z⟩ => wpAny_newObj_type ⟨m₁, _, S₁.push (ao := .list vs) ⟨0, rfl⟩, z _ (S₁.fresh (Nat.le_refl _))⟩ (by show vs.toArray.size ≤ sizeLine; rw [List.size_toArray]; exact hz)) fun _ _ e => e)
theorem w_Tuple {elts : List Expr} {k : Nat} {pos : Pos} {Q : Value → Loc → Hp → Prop} (h : W X n C (spliced (backTo pos (starEach elts env))) m H (fun vs m₁ H₁ => vs.length ≤ sizeLine ∧ ∀ d, H₁ d = none → Q (.ref d) m₁ (upd H₁ d (.tup vs)))) :
    W X n C (eval (.Tuple elts k pos) env) m H Q := w_of fun E s a S =>
  Tuple_ (wpAny_mono (h.go E s a S) (fun vs s' ⟨m₁, _, S₁, hz, z⟩ => wpAny_newObj_type ⟨m₁, _, S₁.push (ao := .tup vs) ⟨0, rfl⟩, z _ (S₁.fresh (Nat.le_refl _))⟩ (by show vs.toArray.size ≤ sizeLine; rw [List.size_toArray]; exact hz)) fun _ _ e => e)
theorem rep_fold (xs : List Value) (k : Nat) : List.foldl (fun x1 x2 => x1 ++ x2) #[] (List.replicate (if xs.toArray.isEmpty = true then 0 else k) xs.toArray) = (List.replicate k xs).flatten.toArray := by
  have := listMul_foldl_if xs.toArray k
  simpa using this
theorem w_mulL {l : Addr} {xs : List Value} {x : Int} {u : Tok} {Q : Value → Loc → Hp → Prop} (hl : H l = some (.list xs)) (h0 : -(2 ^ 63 : Int) ≤ x) (h1 : x < 2 ^ 63) (hz : xs.length * x.toNat ≤ 2 ^ 24) (q : ∀ d, H d = none → Q (.ref d) m (upd H d (.list (List.replicate x.toNat xs).flatten))) :
    W X n C (binaryOp .Mult (.ref l) (.int x u)) m H Q := w_of fun E s a S => by
  obtain ⟨o, ho, e, rfl⟩ := S.at hl
  have hsz' : xs.toArray.size * x.toNat ≤ 2 ^ 24 := by simpa using hz
  exact wpAny_binaryOp_repeat_ref (T := "list") (U := "int") (by decide) ⟨_, ho, rfl⟩ (fun s' => typeIs_int s' x u) noFill_list_mul PySem.F.fills_int_mul PySem.F.slot_int_rmul repeat_list PySem.F.slot_int_index.lookup
    (call_meets PySem.F.slot_int_rmul (typeIs_int s x u) PySem.F.entry_int_rmul (PySem.F.args_int_rmul_2 _ _) (int___rmul___int_list x u l xs.toArray e)
      ⟨ho, rfl, ⟨_, ho, rfl⟩, call_meets PySem.F.slot_list_mul ⟨_, ho, rfl⟩ PySem.F.entry_list_mul (PySem.F.args_list_mul_2 _ _)
        (AutoListH.list___mul___list_int_3 l xs.toArray e x u (by simp [Builtin.List.listFitsIndex]; omega) (by omega) (by simp [Builtin.List.listTooLong, sizeLine] at hsz' ⊢; omega))
        ⟨ho, m, _, S.push (ao := .list (List.replicate x.toNat xs).flatten) (tk := s.toks) ⟨0, by rw [rep_fold]⟩, q _ (S.fresh (Nat.le_refl _))⟩⟩)
theorem w_len {l : Addr} {xs : List Value} {Q : Value → Loc → Hp → Prop} (hl : H l = some (.list xs)) (hz : xs.length < 2 ^ 63) (q : ∀ t, Q (.int xs.length t) m H) : W X n C (call (.builtin "len") [.ref l]) m H Q := w_of fun E s a S => by
  have z := S.isList hl
  refine call_len_list z (by simp; omega) ?_
  have : ((xs.toArray.size : Nat) : Int) = xs.length := by simp
  rw [this]
  exact ⟨m, H, S.toks _, q _⟩
end
end Mine
namespace Mine
open PySem.Calls PySem.Spec
def retOf : Flow → Value
  | .ret v => v
  | _ => .none
section
variable {X : Fx} {n : Nat} {H : Hp} {name qual : Str} {params : Arguments} {body : List Stmt} {scope : Scope} {dV kV doc pm cdv ct oc : Value} {an od : Option Addr} {osl : Array (Option Value)} {f : Addr} {args : List Value} {binds : List (Str × Value)} {Q : Value → Hp → Prop}
theorem hin_open {h₀ h h' : Heap} (z : HIn h₀ H h) (k : Keep h h') : HIn h₀ H h' := fun a ao e => let ⟨o, x, i, w⟩ := z a ao e; ⟨o, k _ _ x, i, w⟩
/-- a def without cells -/
theorem spec_def (ho : X.K.lookup f = some ⟨oc, od, .func (fnOf name qual params body scope dV kV doc pm an cdv ct), osl⟩) (hcd : codeIn X.K cdv qual = true)
    (hbind : bindArgs (fnOf name qual params body scope dV kV doc pm an cdv ct) ⟨args, []⟩ = pure binds) (hcell : ∀ x ∈ scope.names, x.2 ≠ .cell) (hloc : ∀ x ∈ binds, scope.names.lookup x.1 = some .local)
    (h : ∀ C : Cx, W X n C (execs body (envOf qual scope C.L f cdv)) (fun y => binds.reverse.lookup y) H (fun fl _ H' => Q (retOf fl) H'))
    (hco : scope.isCoroutine = false := by rfl) (hgen : scope.isGenerator = false := by rfl) (hk : scope.kind = .function := by rfl) : Spec X (n + 1) (.ref f) args H Q := by
  constructor
  intro A h₀ s a g kp hsz hi
  have gs := g.keep kp
  refine codeAny_call_def (fd := fnOf name qual params body scope dV kV doc pm an cdv ct) (body := body) (binds := binds) a.room (gs.k _ _ ho) rfl gs.t.nolimit (codeRec_of gs.k hcd) rfl (BindsTo.of_eq hbind) hcell hloc (fun h₁ hns hk₁ => ?_) hco hgen hk
  have S : St X ⟨A.deeper (envOf qual scope s.heap.objs.size f cdv), h₀, h₀, s.heap.objs.size, s⟩ (fun y => binds.reverse.lookup y) H { s with heap := h₁, toks := s.toks + binds.length } :=
    ⟨g, ⟨hns, fun b o e => hk₁ _ _ (kp _ _ e), hsz⟩, Keep.refl _, fun b o e => hk₁ _ _ (kp _ _ e), by
        cases q : h₀.get? s.heap.objs.size with
        | none => rfl
        | some o => exact absurd (Heap.lt_size (kp _ _ q)) (Nat.lt_irrefl _),
      hin_open hi hk₁, fun b bo e eq => by
        obtain ⟨o, x, _⟩ := hi b bo e
        subst eq; exact absurd (Heap.lt_size x) (Nat.lt_irrefl _), (Same.refl s).to _ _⟩
  refine wpAny_mono ((h _).go _ _ (a.deeper _) S) (fun fl s' z => ?_) fun _ _ e => e
  obtain ⟨m', H', S', q⟩ := z
  refine ⟨_, H', ?_, S'.same, S'.kp, S'.hin, q⟩
  cases fl <;> rfl
/-- a def with one cell, its first parameter's -/
theorem call_defC {x : Str} {v : Option Value} {A : Around} {h₀ : Heap} {s : Shared} (ho : X.K.lookup f = some ⟨oc, od, .func (fnOf name qual params body scope dV kV doc pm an cdv ct), osl⟩) (hcd : codeIn X.K cdv qual = true)
    (hbind : bindArgs (fnOf name qual params body scope dV kV doc pm an cdv ct) ⟨args, []⟩ = pure binds)
    (hc : ∀ k, cellsFrom k scope.names [] = [(x, k)])
    (hkind : ∀ k, ∀ y ∈ binds, scope.names.lookup y.1 = some .local ∨ (scope.names.lookup y.1 = some .cell ∧ ((cellsFrom k scope.names []).lookup y.1).isSome = true))
    {m : Loc} (hm : ∀ L, bindL (envOfC qual scope L f cdv).kindOf binds (fun _ => none) = m) (hv : ∀ L, bindC (envOfC qual scope L f cdv).kindOf binds (fun _ => none) x = v)
    (h : ∀ (C : Cx) (c : Addr), C.h₀ = h₀ → H c = none → W X n C (execs body { scope := scope, locals := C.L, globals := mainGlobals, cells := [(x, c)], qual := qual ++ ".<locals>.", func := some f, code := cdv, frame := some C.L, builtins := builtinsNs }) m (upd H c (.cell v)) (fun fl _ H' => Q (retOf fl) H'))
    (a : AOk A (n + 1)) (g : Grd X h₀) (kp : Keep h₀ s.heap) (hsz : h₀.objs.size ≤ s.heap.objs.size) (hi : HIn h₀ H s.heap)
    (hco : scope.isCoroutine = false := by rfl) (hgen : scope.isGenerator = false := by rfl) (hk : scope.kind = .function := by rfl) :
    codeAny (model X.prog X.w) A (.call (.ref f) ⟨args, []⟩) (fun r s' => ∃ v H', r = .ok (.ret v) ∧ Same s s' ∧ Keep h₀ s'.heap ∧ HIn h₀ H' s'.heap ∧ Q v H') s := by
  have gs := g.keep kp
  refine codeAny_call_cells (fd := fnOf name qual params body scope dV kV doc pm an cdv ct) (body := body) (binds := binds) a.room (gs.k _ _ ho) rfl gs.t.nolimit (codeRec_of gs.k hcd) rfl hbind rfl (hkind _) (fun s₁ x₁ => ?_) hco hgen hk
  have eE : callEnvC (fnOf name qual params body scope dV kV doc pm an cdv ct) s.heap.objs.size f = envOfC qual scope s.heap.objs.size f cdv := rfl
  rw [eE] at x₁ ⊢
  have eC : envOfC qual scope s.heap.objs.size f cdv = { scope := scope, locals := s.heap.objs.size, globals := mainGlobals, cells := [(x, s.heap.objs.size + 1)], qual := qual ++ ".<locals>.", func := some f, code := cdv, frame := some s.heap.objs.size, builtins := builtinsNs } := by
    unfold envOfC; rw [hc]
  obtain ⟨h₁, tk, rfl, hk₁⟩ := x₁.done
  have hL : ∀ o, h₀.get? s.heap.objs.size = some o → False := fun o q => absurd (Heap.lt_size (kp _ _ q)) (Nat.lt_irrefl _)
  have hns : h₁.Ns s.heap.objs.size m := hm s.heap.objs.size ▸ x₁.toInCall.ns
  have hcell := x₁.cell x (s.heap.objs.size + 1) (by rw [eC]; simp [List.lookup])
  rw [hv] at hcell
  obtain ⟨oc', hoc, hdc⟩ := hcell
  have Hn : ∀ b, s.heap.objs.size ≤ b → H b = none := fun b hb => by
    cases q : H b with
    | none => rfl
    | some ao => obtain ⟨o, x, _⟩ := hi b ao q; exact absurd (Heap.lt_size x) (Nat.not_lt.mpr hb)
  have S : St X ⟨A.deeper (envOfC qual scope s.heap.objs.size f cdv), h₀, h₀, s.heap.objs.size, s⟩ m (upd H (s.heap.objs.size + 1) (.cell v)) { s with heap := h₁, toks := tk } :=
    ⟨g, ⟨hns, fun b o e => hk₁ _ _ (kp _ _ e), hsz⟩, Keep.refl _, fun b o e => hk₁ _ _ (kp _ _ e), by
        cases q : h₀.get? s.heap.objs.size with
        | none => rfl
        | some o => exact (hL o q).elim,
      fun b bo e => by
        by_cases q : b = s.heap.objs.size + 1
        · subst q; rw [upd_self] at e; cases e
          refine ⟨oc', hoc, hdc, ?_⟩
          cases q : h₀.get? (s.heap.objs.size + 1) with
          | none => rfl
          | some o => exact absurd (Heap.lt_size (kp _ _ q)) (Nat.not_lt.mpr (Nat.le_succ _))
        · rw [upd_ne q] at e; exact hin_open hi hk₁ b bo e,
      fun b bo e eq => (by
        subst eq
        have e' : upd H (s.heap.objs.size + 1) (.cell v) s.heap.objs.size = some bo := e
        rw [upd_ne (show s.heap.objs.size ≠ s.heap.objs.size + 1 by omega), Hn _ (Nat.le_refl _)] at e'
        cases e'), (Same.refl s).to _ _⟩
  rw [eC] at S ⊢
  refine wpAny_mono ((h _ _ rfl (Hn _ (Nat.le_succ _))).go _ _ (a.deeper _) S) (fun fl s' z => ?_) fun _ _ e => e
  obtain ⟨m', H', S', q⟩ := z
  refine ⟨_, H', ?_, S'.same, S'.kp, S'.hin, q⟩
  cases fl <;> rfl
/-- a def with one cell, its first parameter's -/
theorem spec_defC {x : Str} {v : Value} (ho : X.K.lookup f = some ⟨oc, od, .func (fnOf name qual params body scope dV kV doc pm an cdv ct), osl⟩) (hcd : codeIn X.K cdv qual = true)
    (hbind : bindArgs (fnOf name qual params body scope dV kV doc pm an cdv ct) ⟨args, []⟩ = pure binds)
    (hc : ∀ k, cellsFrom k scope.names [] = [(x, k)])
    (hkind : ∀ k, ∀ y ∈ binds, scope.names.lookup y.1 = some .local ∨ (scope.names.lookup y.1 = some .cell ∧ ((cellsFrom k scope.names []).lookup y.1).isSome = true))
    {m : Loc} (hm : ∀ L, bindL (envOfC qual scope L f cdv).kindOf binds (fun _ => none) = m) (hv : ∀ L, bindC (envOfC qual scope L f cdv).kindOf binds (fun _ => none) x = some v)
    (h : ∀ (C : Cx) (c : Addr), H c = none → W X n C (execs body { scope := scope, locals := C.L, globals := mainGlobals, cells := [(x, c)], qual := qual ++ ".<locals>.", func := some f, code := cdv, frame := some C.L, builtins := builtinsNs }) m (upd H c (.cell (some v))) (fun fl _ H' => Q (retOf fl) H'))
    (hco : scope.isCoroutine = false := by rfl) (hgen : scope.isGenerator = false := by rfl) (hk : scope.kind = .function := by rfl) : Spec X (n + 1) (.ref f) args H Q :=
  ⟨fun _ _ _ a g kp hsz hi => call_defC ho hcd hbind hc hkind hm hv (fun C c _ hn => h C c hn) a g kp hsz hi hco hgen hk⟩
theorem spec_class {Cl fI : Addr} (hm : makesIn X.K Cl = true) (hi : findIn X.K (.ref Cl) "__init__" = some (some (.ref fI))) (hf : typeIn X.K (.ref fI) = some (.type "function"))
    (h : ∀ x dx, H x = none → H dx = none → x ≠ dx → Spec X n (.ref fI) (.ref x :: args) (upd (upd H dx (.ns (fun _ => none) 0)) x (.inst Cl dx)) (fun v H' => v = .none ∧ Q (.ref x) H')) :
    Spec X (n + 1) (.ref Cl) args H Q := by
  constructor
  intro A h₀ s a g kp hsz hin
  obtain ⟨hh, gn, d, t, os⟩ := s
  have X₀ := (g.keep kp).k
  have Hn : ∀ b, hh.objs.size ≤ b → H b = none := fun b hb => by
    cases q : H b with
    | none => rfl
    | some ao => obtain ⟨o, x, _⟩ := hin b ao q; exact absurd (Heap.lt_size x) (Nat.not_lt.mpr hb)
  have hkeep : Keep hh ((hh.push emptyDict).push (instObj Cl hh.objs.size)) := fun b o e => Heap.get?_push_of_some _ (Heap.get?_push_of_some _ e)
  have h0n : ∀ b, hh.objs.size ≤ b → h₀.get? b = none := fun b hb => by
    cases q : h₀.get? b with
    | none => rfl
    | some o => exact absurd (Heap.lt_size (kp _ _ q)) (Nat.not_lt.mpr hb)
  refine make_core (makes_of X₀ hm) (looks_findIn X₀ hi) (fun self => bind_fn X₀ self hf) (.inl rfl) ?_
  have z := (h (hh.objs.size + 1) hh.objs.size (Hn _ (Nat.le_succ _)) (Hn _ (Nat.le_refl _)) (Nat.succ_ne_self _)).go (A.under (.builtin "type.__call__" ⟨.ref Cl :: args, []⟩)) h₀
    ⟨(hh.push emptyDict).push (instObj Cl hh.objs.size), gn, d, t, os⟩ ⟨a.h, by have := a.d; rw [depth_under_make]; omega, by have := a.u; rw [units_under_make]; omega⟩ g (kp.trans hkeep)
    (by show _ ≤ ((hh.push emptyDict).push (instObj Cl hh.objs.size)).objs.size; rw [Heap.size_push, Heap.size_push]; exact Nat.le_trans hsz (Nat.le_trans (Nat.le_succ _) (Nat.le_succ _))) (fun b bo e => by
      by_cases q : b = hh.objs.size + 1
      · subst q; rw [upd_self] at e; cases e
        refine ⟨instObj Cl hh.objs.size, ?_, rfl, h0n _ (Nat.le_succ _)⟩
        have := Heap.get?_push_size (hh.push emptyDict) (o := instObj Cl hh.objs.size) rfl
        rwa [Heap.size_push] at this
      · rw [upd_ne q] at e
        by_cases q' : b = hh.objs.size
        · subst q'; rw [upd_self] at e; cases e
          exact ⟨emptyDict, Heap.get?_push_of_some _ (Heap.get?_push_size _ rfl), ⟨[], 0, rfl, fun _ he => by simp at he, fun _ => rfl, Nat.zero_le _⟩, h0n _ (Nat.le_refl _)⟩
        · rw [upd_ne q'] at e; exact hin_open hin hkeep b bo e)
  refine codeAny_mono z fun r s' ⟨v, H', e, sm, k', hi', hv, q⟩ => ?_
  subst e hv
  exact ⟨rfl, .ref _, H', rfl, by obtain ⟨h', tk', rfl⟩ := sm; exact ⟨h', tk', rfl⟩, k', hi', q⟩
end
end Mine
namespace Mine
open PySem.Calls PySem.Spec
section
variable {X : Fx} {n : Nat} {C : Cx} {m : Loc} {H : Hp} {env : Env}
/-- how a turn of a loop ends -/
def LoopQ (J : Loc → Hp → Prop) (Q : Flow → Loc → Hp → Prop) (f : Flow) (m : Loc) (H : Hp) : Prop := match f with
  | .next => J m H
  | .cont => J m H
  | .brk => Q .next m H
  | .ret v => Q (.ret v) m H
theorem w_While {test : Expr} {body : List Stmt} {pos : Pos} {Q : Flow → Loc → Hp → Prop} (I : Nat → Loc → Hp → Prop) (k : Nat) (h0 : I k m H)
    (turn : ∀ k m H, I k m H → W X n C (isTrue test env (eval test env)) m H (fun b m₁ H₁ => if b = true then W X n C (execs body env) m₁ H₁ (LoopQ (fun m₂ H₂ => ∃ j, j < k ∧ I j m₂ H₂) Q) else Q .next m₁ H₁)) :
    W X n C (exec (.While test body [] pos) env) m H Q := w_of fun E s a S => by
  refine wpAny_While (codeAny_whileLoop (fun k s => ∃ m H, St X C m H s ∧ I k m H) (fun k s hI => ?_) k ⟨m, H, S, h0⟩)
  obtain ⟨m, H, S, hI⟩ := hI
  refine wpAny_mono ((turn k m H hI).go _ s a S) (fun b s' ⟨m₁, H₁, S₁, z⟩ => ?_) fun _ _ e => e
  cases b with
  | false => exact wpAny_execs_nil ⟨m₁, H₁, S₁, z⟩
  | true =>
    refine wpAny_mono ((show W X n C (execs body env) m₁ H₁ _ from z).go _ s' a S₁) (fun f s'' ⟨m₂, H₂, S₂, z⟩ => ?_) fun _ _ e => e
    cases f with
    | next => obtain ⟨j, hj, hI⟩ := z; exact ⟨j, hj, m₂, H₂, S₂, hI⟩
    | cont => obtain ⟨j, hj, hI⟩ := z; exact ⟨j, hj, m₂, H₂, S₂, hI⟩
    | brk => exact ⟨m₂, H₂, S₂, z⟩
    | ret v => exact ⟨m₂, H₂, S₂, z⟩
/-- what is written lies beside what is known -/
theorem St.wrote {s : Shared} (S : St X C m H s) {wr : List Addr} {h' : Heap} {tk : Nat} (k : ∀ b o, b ∉ wr → s.heap.get? b = some o → h'.get? b = some o) (hw : ∀ b ∈ wr, C.h₀.get? b = none ∧ H b = none ∧ b ≠ C.L) : St X C m H { s with heap := h', toks := tk } where
  g := S.g
  fr := ⟨S.fr.ns.at' fun o e => k _ o (fun q => (hw _ q).2.2 rfl) e, fun b o e => k b o (fun q => by have := S.bb _ _ e; rw [(hw _ q).1] at this; cases this) (S.fr.keep b o e), S.fr.above⟩
  bb := S.bb
  kp := fun b o e => k b o (fun q => by rw [(hw _ q).1] at e; cases e) (S.kp b o e)
  nl := S.nl
  hin := fun a ao e => let ⟨o, x, i, z⟩ := S.hin a ao e; ⟨o, k _ _ (fun q => by rw [(hw _ q).2.1] at e; cases e) x, i, z⟩
  lh := S.lh
  same := S.same.to _ _
/-- the objects that an iterator hangs on stand beside what is known -/
structure Aside (C : Cx) (H : Hp) (fp wr : List Addr) (ks : List (Addr × Obj)) (h : Heap) : Prop where
  hfp : ∀ b ∈ fp, H b = none ∧ b ≠ C.L ∧ ∃ o, h.get? b = some o
  hwr : ∀ b ∈ wr, C.h₀.get? b = none ∧ b ∈ fp
  hks : ∀ p ∈ ks, h.get? p.1 = some p.2 ∧ H p.1 = none ∧ p.1 ≠ C.L ∧ p.1 ∉ wr
theorem Aside.next {fp wr : List Addr} {ks : List (Addr × Obj)} {h h' : Heap} (x : Aside C H fp wr ks h) (k : ∀ b o, b ∉ wr → h.get? b = some o → h'.get? b = some o) (hf : ∀ b ∈ fp, ∃ o, h'.get? b = some o) : Aside C H fp wr ks h' :=
  ⟨fun b hb => ⟨(x.hfp b hb).1, (x.hfp b hb).2.1, hf b hb⟩, x.hwr, fun p hp => let ⟨a, b, c, d⟩ := x.hks p hp; ⟨k _ _ d a, b, c, d⟩⟩
theorem Aside.back {fp wr : List Addr} {ks : List (Addr × Obj)} {h : Heap} {s' : Shared} {H' : Hp} {m' : Loc} (x : Aside C H fp wr ks h) (S' : St X { C with h₀ := hideL h H C.L } m' H' s') : Aside C H' fp wr ks s'.heap :=
  ⟨fun b hb => (by
      obtain ⟨a, c, o, e⟩ := x.hfp b hb
      have e' := hideH_get e (show upd H C.L (.cell none) b = none by rw [upd_ne c]; exact a)
      refine ⟨?_, c, o, S'.kp _ _ e'⟩
      cases q : H' b with
      | none => rfl
      | some ao => have := S'.off q; exact nomatch e'.symm.trans this),
    x.hwr, fun p hp => (by
      obtain ⟨e, a, c, d⟩ := x.hks p hp
      have e' := hideH_get e (show upd H C.L (.cell none) p.1 = none by rw [upd_ne c]; exact a)
      refine ⟨S'.kp _ _ e', ?_, c, d⟩
      cases q : H' p.1 with
      | none => rfl
      | some ao => have := S'.off q; exact nomatch e'.symm.trans this)⟩
theorem for_core {target : Expr} {body : List Stmt} {I : Addr} {fp wr : List Addr} {N : Nat} {P : Nat → Value → Prop} {Sx : Nat → Heap → Prop} {ks : List (Addr × Obj)} {Q : Flow → Loc → Hp → Prop}
    (Wk : Walks X.prog X.w C.A I fp wr N P Sx) (hfx : ∀ i h b, b ∈ fp → Sx i h → ∃ o, h.get? b = some o)
    (go : ∀ i v E s (R : Unit → Shared → Prop), P i v → Sx (i + 1) s.heap → R () s → wpAny (model X.prog X.w) C.A (letOwnedTupleGo target (.ref I) v) R E s)
    (J : Nat → Loc → Hp → Prop)
    (step : ∀ i v h m H, i < N → P i v → J i m H → W X n { C with h₀ := h } (assign target env v) m H (fun _ m₁ H₁ => W X n { C with h₀ := h } (execs body env) m₁ H₁ (LoopQ (J (i + 1)) Q)))
    (fin : ∀ m H s, J N m H → St X C m H s → (∀ p ∈ ks, s.heap.get? p.1 = some p.2 ∧ H p.1 = none ∧ p.1 ≠ C.L) → ∃ m' H', St X C m' H' s ∧ Q .next m' H')
    {s : Shared} (a : AOk C.A n) (S : St X C m H s) (hJ : J 0 m H) (hS : Sx 0 s.heap) (hA : Aside C H fp wr ks s.heap) :
    codeAny (model X.prog X.w) C.A (.forLoop target (.ref I) body [] env) (fun r s' => ∃ f m' H', r = .ok f ∧ St X C m' H' s' ∧ Q f m' H') s := by
  refine codeAny_forLoop_any (fun k s => ∃ i m H, St X C m H s ∧ J i m H ∧ Sx i s.heap ∧ Aside C H fp wr ks s.heap ∧ i ≤ N ∧ k = N + 1 - i) ?_ (N + 1) ⟨0, m, H, S, hJ, hS, hA, Nat.zero_le _, rfl⟩
  rintro k s ⟨i, m, H, S, hJ, hS, hA, hi, rfl⟩
  have hw : ∀ b ∈ wr, C.h₀.get? b = none ∧ H b = none ∧ b ≠ C.L := fun b hb => ⟨(hA.hwr b hb).1, (hA.hfp b (hA.hwr b hb).2).1, (hA.hfp b (hA.hwr b hb).2).2.1⟩
  by_cases hlt : i < N
  · refine Wk.item i _ _ _ hlt hS fun v h' tk hP hS' k' => ?_
    have S' := S.wrote (tk := tk) k' hw
    have hA' := hA.next (h' := h') k' fun b hb => hfx _ _ b hb hS'
    refine go i v _ _ _ hP hS' ?_
    refine wpAny_mono ((step i v (hideL h' H C.L) m H hlt hP hJ).go _ _ a S'.base) (fun _ s₂ ⟨m₂, H₂, S₂, z⟩ => ?_) fun _ _ e => e
    refine wpAny_mono (z.go _ _ a S₂) (fun f s₃ ⟨m₃, H₃, S₃, z⟩ => ?_) fun _ _ e => e
    have S₄ := S'.unbase S'.in_base S₃
    have hA₄ := hA'.back S₃
    have hS₄ : Sx (i + 1) s₃.heap := Wk.frame _ _ _ hS' fun b hb o e => by
      obtain ⟨p, q, _⟩ := hA'.hfp b hb
      exact S₃.kp _ _ (hideH_get e (by rw [upd_ne q]; exact p))
    cases f with
    | next => exact ⟨_, by omega, i + 1, m₃, H₃, S₄, z, hS₄, hA₄, hlt, rfl⟩
    | cont => exact ⟨_, by omega, i + 1, m₃, H₃, S₄, z, hS₄, hA₄, hlt, rfl⟩
    | brk => exact ⟨_, m₃, H₃, rfl, S₄, z⟩
    | ret v => exact ⟨_, m₃, H₃, rfl, S₄, z⟩
  · have : i = N := by omega
    subst this
    refine Wk.done _ _ _ hS fun h' tk k' => wpAny_execs_nil ?_
    have S' := S.wrote (tk := tk) k' hw
    obtain ⟨m', H', S'', q⟩ := fin m H _ hJ S' fun p hp => let ⟨a, b, c, d⟩ := hA.hks p hp; ⟨k' _ _ d a, b, c⟩
    exact ⟨_, m', H', rfl, S'', q⟩
end
end Mine
namespace Mine
open PySem.Calls PySem.Spec
section
variable {X : Fx} {n : Nat} {C : Cx} {m : Loc} {H : Hp} {env : Env}
def del (H : Hp) (a : Addr) : Hp := fun b => if b = a then none else H b
theorem del_self (H : Hp) (a : Addr) : del H a a = none := by unfold del; rw [if_pos rfl]
theorem del_ne {H : Hp} {a b : Addr} (h : b ≠ a) : del H a b = H b := by unfold del; rw [if_neg h]
theorem del_of {H : Hp} {a b : Addr} {ao : AO} (h : del H a b = some ao) : H b = some ao ∧ b ≠ a := by
  by_cases q : b = a
  · subst q; rw [del_self] at h; cases h
  · rw [del_ne q] at h; exact ⟨h, q⟩
/-- a loop over a value -/
structure ForIn (X : Fx) (n : Nat) (C : Cx) (target : Expr) (xv : Value) (body : List Stmt) (env : Env) (m : Loc) (H : Hp) (Q : Flow → Loc → Hp → Prop) : Prop where
  of :: go : ∀ E s, AOk C.A n → St X C m H s → wpAny (model X.prog X.w) C.A (pyIter xv) (fun it s₂ =>
    codeAny (model X.prog X.w) C.A (.forLoop target it body [] env) (fun r s' => ∃ f m' H', r = .ok f ∧ St X C m' H' s' ∧ Q f m' H') s₂) E s
theorem w_For {target iter : Expr} {body : List Stmt} {pos : Pos} {Q : Flow → Loc → Hp → Prop} (h : W X n C (eval iter env) m H (fun xv m₁ H₁ => ForIn X n C target xv body env m₁ H₁ Q))
    (hs : ∀ x, foldedSetIterable iter env x = pure x := by intro _; kernel_rfl) : W X n C (exec (.For target iter body [] pos) env) m H Q := w_of fun E s a S =>
  wpAny_For (wpAny_mono (h.go E s a S) (fun xv s₁ ⟨m₁, H₁, S₁, z⟩ => wpAny_mono (z.go E s₁ a S₁) (fun it s₂ z => codeAny_mono z fun r s' ⟨f, m', H', e, S', q⟩ => by subst e; exact ⟨m', H', S', q⟩) fun _ _ e => e) fun _ _ e => e) hs
theorem go_name {x : Str} {p : Pos} {M : Model} {A : Around} {it v : Value} {E s} {R : Unit → Shared → Prop} (h : R () s) : wpAny M A (letOwnedTupleGo (.Name x p) it v) R E s := wpAny_pure h
theorem rangeN (a b c : Int) : 0 ≤ Builtin.Range.rangeSize a b c := by
  unfold Builtin.Range.rangeSize
  split <;> split <;> first | omega | (have := Int.ediv_nonneg (a := b - a - 1) (b := c) (by omega) (by omega); omega) | (have := Int.ediv_nonneg (a := a - b - 1) (b := -c) (by omega) (by omega); omega)
theorem for_range {x : Str} {px : Pos} {body : List Stmt} {r : Addr} {a b c : Int} {Q : Flow → Loc → Hp → Prop} (hr : H r = some (.rng a b c)) (hsm : Builtin.Range.small a b c = true) (N : Nat) (hN : (Builtin.Range.rangeSize a b c).toNat = N)
    (J : Nat → Loc → Hp → Prop) (h0 : J 0 m H)
    (step : ∀ i t h m H, i < N → J i m H → W X n { C with h₀ := h } (execs body env) (setm m x (.int (a + i * c) t)) H (LoopQ (J (i + 1)) Q))
    (fin : ∀ m H, J N m H → Q .next m H)
    (hL : env.locals = C.L := by rfl) (hk : env.scope.kind = .function := by rfl) (hl : env.kindOf x = some .local := by rfl) :
    ForIn X n C (.Name x px) (.ref r) body env m H Q := .of fun E s ok S => by
  obtain ⟨o, ho, t, u, v, rfl⟩ := S.at hr
  refine wpAny_pyIter_range ho hsm ?_
  have hI : H s.heap.objs.size = none := S.fresh (Nat.le_refl _)
  have S' : St X C m H { s with heap := s.heap.push { cls := .type "range_iterator", data := .fields #[rawInt a, rawInt (Builtin.Range.rangeSize a b c), rawInt c] } } := S.kept (tk := s.toks) ((Keep.refl _).push _)
  refine for_core (Walks.range ok.h s.heap.objs.size a c N) (ks := []) (fun i h b hb st => ?_) (fun i v E s R _ _ q => go_name q) J ?_ (fun m H s hJ S _ => ⟨m, H, S, fin m H hJ⟩) ok S' h0 ?_ ⟨fun b hb => ?_, fun b hb => ?_, fun p hp => nomatch hp⟩
  · rw [List.mem_singleton.mp hb]; exact ⟨_, st⟩
  · rintro i v h m H hi ⟨t, rfl⟩ hJ
    exact w_of fun E s a S => wpAny_assign_Name ((w_store (X := X) (n := n) (C := { C with h₀ := h }) (env := env) (H := H) (Q := fun _ m₁ H₁ => W X n { C with h₀ := h } (execs body env) m₁ H₁ (LoopQ (J (i + 1)) Q)) (step i t h m H hi hJ) hL hk hl).go E s a S)
  · have : ((N : Nat) : Int) = Builtin.Range.rangeSize a b c := by rw [← hN]; exact Int.toNat_of_nonneg (rangeN a b c)
    simp only [Int.natCast_zero, Int.zero_mul, Int.add_zero, Int.sub_zero, this]
    exact Heap.get?_push_size _ rfl
  · rw [List.mem_singleton.mp hb]; exact ⟨hI, S.ne_of_size (Nat.le_refl _), _, Heap.get?_push_size _ rfl⟩
  · rw [List.mem_singleton.mp hb]; exact ⟨S.none_of_size (Nat.le_refl _), List.mem_singleton.mpr rfl⟩
theorem w_range1 {k : Int} {t : Tok} {Q : Value → Loc → Hp → Prop} (q : ∀ r, H r = none → Q (.ref r) m (upd H r (.rng 0 k 1))) : W X n C (call (.type "range") [.int k t]) m H Q := w_of fun E s a S =>
  call_range_1 ⟨m, _, S.push (ao := .rng 0 k 1) ⟨_, _, _, rfl⟩, q _ (S.fresh (Nat.le_refl _))⟩
theorem w_range2 {j k : Int} {t u : Tok} {Q : Value → Loc → Hp → Prop} (q : ∀ r, H r = none → Q (.ref r) m (upd H r (.rng j k 1))) : W X n C (call (.type "range") [.int j t, .int k u]) m H Q := w_of fun E s a S =>
  call_range_2 ⟨m, _, S.push (ao := .rng j k 1) ⟨_, _, _, rfl⟩, q _ (S.fresh (Nat.le_refl _))⟩
/-! unpacking -/
theorem w_unpack {elts : List Expr} {k : Nat} {pos : Pos} {t : Addr} {xs : List Value} {Q : Unit → Loc → Hp → Prop} (ht : H t = some (.tup xs)) (hn : (assignEach elts env).length = xs.length) (hstar : (assignEach elts env).findIdx? (·.1) = none)
    (h : W X n C (assignInOrder ((assignEach elts env).map (·.2)) xs) m H Q) : W X n C (assign (.Tuple elts k pos) env (.ref t)) m H Q := w_of fun E s a S => by
  obtain ⟨o, ho, e, rfl⟩ := S.at ht
  have hi : s.heap.IsTuple t xs.toArray := by first | exact ⟨_, ho, rfl, e, rfl⟩ | exact ⟨_, ho, rfl, rfl⟩
  refine wpAny_assign_Tuple a.h hi (by simpa using hn) hstar fun h' k' => ?_
  have S' : St X C m H { s with heap := h' } := S.wrote (tk := s.toks) (wr := [s.heap.objs.size]) (fun b o hb e => k' b o (fun q => hb (List.mem_singleton.mpr q)) e)
    (fun b hb => by rw [List.mem_singleton.mp hb]; exact ⟨S.none_of_size (Nat.le_refl _), S.fresh (Nat.le_refl _), S.ne_of_size (Nat.le_refl _)⟩)
  exact h.go E _ a S'
theorem w_order0 {Q : Unit → Loc → Hp → Prop} (q : Q () m H) : W X n C (assignInOrder [] []) m H Q := w_of fun E s a S => wpAny_assignInOrder_none ⟨m, H, S, q⟩
theorem w_order {t : Value → Sem Unit} {ts : List (Value → Sem Unit)} {x : Value} {xs : List Value} {Q : Unit → Loc → Hp → Prop} (h : W X n C (t x) m H (fun _ m₁ H₁ => W X n C (assignInOrder ts xs) m₁ H₁ Q)) :
    W X n C (assignInOrder (t :: ts) (x :: xs)) m H Q := w_of fun E s a S => wpAny_assignInOrder_more (wpAny_mono (h.go E s a S) (fun _ s' ⟨_, _, S₁, z⟩ => z.go E s' a S₁) fun _ _ e => e)
theorem w_asName {x : Str} {pos : Pos} {v : Value} {Q : Unit → Loc → Hp → Prop} (h : W X n C (storeName env x v) m H Q) : W X n C (assign (.Name x pos) env v) m H Q := w_of fun E s a S => wpAny_assign_Name (h.go E s a S)
theorem w_AssignTup {elts : List Expr} {k : Nat} {pos' pos : Pos} {value : Expr} {Q : Flow → Loc → Hp → Prop}
    (h : W X n C (eval value env) m H (fun v m₁ H₁ => W X n C (assign (.Tuple elts k pos') env v) m₁ H₁ (fun _ m₂ H₂ => Q .next m₂ H₂)))
    (hs : swapsWithSole [.Tuple elts k pos'] value pos.line env = pure false := by kernel_rfl) (hw : swappedStores [.Tuple elts k pos'] value env = pure none := by kernel_rfl) :
    W X n C (exec (.Assign [.Tuple elts k pos'] value pos) env) m H Q := w_of fun E s a S =>
  wpAny_Assign_stores (wpAny_mono (h.go E s a S) (fun v s' ⟨_, _, S₁, z⟩ => z.go E s' a S₁) fun _ _ e => e) hs hw
theorem w_Expr {e : Expr} {pos : Pos} {Q : Flow → Loc → Hp → Prop} (h : W X n C (eval e env) m H (fun _ m₁ H₁ => Q .next m₁ H₁)) (hi : interactive env = false := by kernel_rfl) (hs : swapsWith e none pos.line env = pure false := by kernel_rfl) :
    W X n C (exec (.Expr e pos) env) m H Q := w_of fun E s a S => wpAny_Expr_any (h.go E s a S) hi hs
/-- a loop over a list that is known -/
theorem for_list {target : Expr} {body : List Stmt} {l : Addr} {xs : List Value} {Q : Flow → Loc → Hp → Prop} (hl : H l = some (.list xs))
    (hg : (∃ x p, target = .Name x p) ∨ ((∃ elts k p, target = .Tuple elts k p) ∧ ∀ v ∈ xs, ∃ T, v = .ref T))
    (J : Nat → Loc → Hp → Prop) (h0 : J 0 m (del H l))
    (step : ∀ i v h m H, xs[i]? = some v → J i m H → W X n { C with h₀ := h } (assign target env v) m H (fun _ m₁ H₁ => W X n { C with h₀ := h } (execs body env) m₁ H₁ (LoopQ (J (i + 1)) Q)))
    (fin : ∀ m H, J xs.length m H → H l = none → Q .next m (upd H l (.list xs))) :
    ForIn X n C target (.ref l) body env m H Q := .of fun E s ok S => by
  obtain ⟨o, ho, e, rfl⟩ := S.at hl
  have hls := S.isList hl
  refine wpAny_pyIter_list hls ?_
  have hne : l ≠ s.heap.objs.size := Nat.ne_of_lt (Heap.lt_size ho)
  have hI : H s.heap.objs.size = none := S.fresh (Nat.le_refl _)
  have S' : St X C m (del H l) { s with heap := s.heap.push { cls := .type "list_iterator", data := .fields #[.ref l, .int 0 0] } } := (S.kept (tk := s.toks) ((Keep.refl _).push _)).less fun a ao q => (del_of q).1
  have hlL := S.lh l _ hl
  have eN : xs.toArray.size = xs.length := List.size_toArray ..
  have Wk := Walks.list (prog := X.prog) (w := X.w) ok.h s.heap.objs.size l hne xs.toArray
  rw [eN] at Wk
  refine for_core Wk (ks := [(l, { cls := .type "list", data := .seq xs.toArray e })]) (fun i h b hb st => ?_) (fun i v E s R hP hS q => ?_) J ?_ (fun m H s hJ S' hk => ?_) ok S' h0 ?_ ⟨fun b hb => ?_, fun b hb => ?_, fun p hp => ?_⟩
  · rcases List.mem_cons.mp hb with rfl | hb
    · obtain ⟨o, q, _⟩ := st.1; exact ⟨o, q⟩
    · rw [List.mem_singleton.mp hb]; obtain ⟨o, q, _⟩ := st.2; exact ⟨o, q⟩
  · rcases hg with ⟨x, p, rfl⟩ | ⟨⟨elts, k, p, rfl⟩, hr⟩
    · exact go_name q
    · have hv : v ∈ xs := by
        have : xs[i]? = some v := by simpa using hP
        exact List.mem_of_getElem? this
      obtain ⟨T, rfl⟩ := hr v hv
      exact wpAny_letOwnedTupleGo_listiter hS.1 q
  · rintro i v h m H hi hP hJ
    exact step i v h m H (by simpa using hP) hJ
  · obtain ⟨q1, q2, q3⟩ := hk _ (List.mem_singleton.mpr rfl)
    refine ⟨m, upd H l (.list xs), ⟨S'.g, S'.fr, S'.bb, S'.kp, S'.nl, fun b bo q => ?_, fun b bo q => ?_, S'.same⟩, fin m H hJ q2⟩
    · by_cases h : b = l
      · subst h; rw [upd_self] at q; cases q; exact ⟨_, q1, ⟨e, rfl⟩, S.off hl⟩
      · rw [upd_ne h] at q; exact S'.hin b bo q
    · by_cases h : b = l
      · subst h; exact q3
      · rw [upd_ne h] at q; exact S'.lh b bo q
  · exact ⟨⟨_, Heap.get?_push_size _ rfl, rfl, rfl⟩, hls.push _⟩
  · rcases List.mem_cons.mp hb with rfl | hb
    · exact ⟨by rw [del_ne (Ne.symm hne)]; exact hI, S.ne_of_size (Nat.le_refl _), _, Heap.get?_push_size _ rfl⟩
    · rw [List.mem_singleton.mp hb]; exact ⟨del_self _ _, hlL, _, Heap.get?_push_of_some _ ho⟩
  · rw [List.mem_singleton.mp hb]; exact ⟨S.none_of_size (Nat.le_refl _), .head _⟩
  · rw [List.mem_singleton.mp hp]
    exact ⟨Heap.get?_push_of_some _ ho, del_self _ _, hlL, fun q => hne (List.mem_singleton.mp q)⟩
end
end Mine
namespace Mine
open PySem.Calls PySem.Spec
section
variable {X : Fx} {n : Nat} {C : Cx} {m : Loc} {H : Hp} {env : Env}
/-- into a comprehension's own frame -/
theorem St.inner {s : Shared} (S : St X C m H s) {L' : Addr} {m' : Loc} (hn : s.heap.Ns L' m') (hH : H L' = none) (h0 : C.h₀.get? L' = none) (hb : C.hb.objs.size ≤ L') : St X { C with h₀ := hideL s.heap H L', L := L' } m' H s where
  g := S.g
  fr := ⟨hn, S.fr.keep, hb⟩
  bb := fun b o e => hideH_get (S.fr.keep b o e) (by
    have h1 : b ≠ L' := fun q => by subst q; exact absurd (Heap.lt_size e) (Nat.not_lt.mpr hb)
    rw [upd_ne h1]
    cases q : H b with
    | none => rfl
    | some ao => have := S.offb q; rw [e] at this; cases this)
  kp := fun _ _ e => hideH_of e
  nl := hideH_none (upd_self _ _ _)
  hin := fun a ao e => let ⟨o, x, i, _⟩ := S.hin a ao e; ⟨o, x, i, hideH_none (ao := ao) (by rw [upd_ne (fun q => by subst q; rw [hH] at e; cases e)]; exact e)⟩
  lh := fun a ao e q => by
    have q' : a = L' := q
    subst q'; rw [hH] at e; cases e
  same := S.same
theorem St.outer {s s' : Shared} (S : St X C m H s) {L' : Addr} {m'' : Loc} {H' : Hp} (hL : L' ≠ C.L) (h0 : C.h₀.get? L' = none) (S' : St X { C with h₀ := hideL s.heap H L', L := L' } m'' H' s') : St X C m H' s' := by
  have nL : H C.L = none := by
    cases q : H C.L with
    | none => rfl
    | some ao => exact absurd rfl (S.lh _ _ q)
  obtain ⟨oL, es, ep, hLo, r⟩ := S.fr.ns
  have hLb : (hideL s.heap H L').get? C.L = some oL := hideH_get hLo (by rw [upd_ne (Ne.symm hL)]; exact nL)
  have kb : Keep C.h₀ (hideL s.heap H L') := fun b o e => hideH_get (S.kp b o e) (by
    by_cases h : b = L'
    · subst h; rw [h0] at e; cases e
    · rw [upd_ne h]
      cases q : H b with
      | none => rfl
      | some ao => rw [S.off q] at e; cases e)
  exact ⟨S'.g, ⟨⟨oL, es, ep, S'.kp _ _ hLb, r⟩, S'.fr.keep, S.fr.above⟩, S.bb, kb.trans S'.kp, S.nl, fun a ao e => by
      obtain ⟨o, x, i, z⟩ := S'.hin a ao e
      refine ⟨o, x, i, ?_⟩
      cases q : C.h₀.get? a with
      | none => rfl
      | some o' => have := kb _ _ q; exact (nomatch this.symm.trans z),
    fun a ao e q => by
      subst q
      have := S'.off e
      exact (nomatch hLb.symm.trans this), S'.same⟩
theorem compLoop_go {prog : Program} {w : World} {A : Around} {R : Result → Shared → Prop} {s : Shared} {elt target iter : Expr} {ifs : List Expr} {scope : Scope} {pos : Pos} {it acc : Value} {env : Env} (I : Nat → Shared → Prop)
    (turn : ∀ n s, I n s → wpAny (model prog w) A (pyNext it) (fun r s₁ => match r with
      | none => R (.ok .next) s₁
      | some v => wpAny (model prog w) A (letOwnedTupleGo target it v) (fun _ s₁ => wpAny (model prog w) A (assign target env v) (fun _ s₂ =>
          wpAny (model prog w) A (forIn ifs true fun c r => if r = true then do let ok ← isTrue c env (eval c env); pure (ForInStep.yield ok) else pure (ForInStep.yield r)) (fun ok s₃ =>
            if ok = true then wpAny (model prog w) A (eval elt env) (fun x s₄ =>
              wpAny (model prog w) A (call (.builtin "list.append") [acc, x]) (fun _ s₅ => ∃ m, m < n ∧ I m s₅) (notedBy (model prog w) A env fun e s' => R (.error e) s') s₄) (notedBy (model prog w) A env fun e s' => R (.error e) s') s₃
            else ∃ m, m < n ∧ I m s₃) (notedBy (model prog w) A env fun e s' => R (.error e) s') s₂) (notedBy (model prog w) A env fun e s' => R (.error e) s') s₁) (notedBy (model prog w) A env fun e s' => R (.error e) s') s₁) (notedBy (model prog w) A env fun e s' => R (.error e) s') s)
    (n : Nat) (h : I n s) : codeAny (model prog w) A (.compLoop (.ListComp elt [⟨target, iter, ifs, 0⟩] scope pos) 0 it acc env) R s := by
  refine codeAny_loop rfl I (fun n s hI => ?_) n h
  show wpAny _ A ((compTurn (.ListComp elt [⟨target, iter, ifs, 0⟩] scope pos) 0 it acc env).onRaise (fun x => do noteFrame x env; theTreesLotGoes x)) _ _ s
  refine wpAny_noted ?_
  rw [compTurn_list]
  refine wpAny_bind (wpAny_standAt (wpAny_bind (wpAny_mono (turn n s hI) (fun r s₁ h₁ => ?_) fun _ _ h' => h')))
  cases r with
  | none => exact wpAny_pure h₁
  | some v =>
    refine wpAny_bind (wpAny_mono h₁ (fun _ s₁ h₁ => ?_) fun _ _ h' => h')
    refine wpAny_bind (wpAny_mono h₁ (fun _ s₂ h₂ => wpAny_bind (wpAny_mono h₂ (fun ok s₃ h₃ => ?_) fun _ _ h' => h')) fun _ _ h' => h')
    cases ok with
    | false => exact wpAny_pure ⟨rfl, h₃⟩
    | true =>
      exact wpAny_bind (wpAny_bind (wpAny_mono h₃ (fun x s₄ h₄ => wpAny_bind (wpAny_mono h₄ (fun _ s₅ h₅ => wpAny_pure (wpAny_pure ⟨rfl, h₅⟩)) fun _ _ h' => h')) fun _ _ h' => h'))
/-- the tests of a clause -/
def WTests (X : Fx) (n : Nat) (C : Cx) (ifs : List Expr) (env : Env) (m : Loc) (H : Hp) (Q : Bool → Loc → Hp → Prop) : Prop := match ifs with
  | [] => Q true m H
  | [c] => W X n C (isTrue c env (eval c env)) m H Q
  | _ => False
theorem wtests {ifs : List Expr} {Q : Bool → Loc → Hp → Prop} (h : WTests X n C ifs env m H Q) :
    W X n C (forIn ifs true fun c r => if r = true then do let ok ← isTrue c env (eval c env); pure (ForInStep.yield ok) else pure (ForInStep.yield r)) m H Q := w_of fun E s a S => by
  match ifs, h with
  | [], h => exact wpAny_tests_nil ⟨m, H, S, h⟩
  | [c], h => exact wpAny_tests_one (h.go E s a S)
structure Acc (C : Cx) (H : Hp) (fp : List Addr) (D L' : Addr) (ys : List Value) (h : Heap) : Prop where
  d : ∃ k, h.get? D = some { cls := .type "list", data := .seq ys.toArray k }
  hd : H D = none
  dL : D ≠ C.L
  d0 : C.h₀.get? D = none
  df : D ∉ fp
  dl : D ≠ L'
  l : H L' = none
  lL : L' ≠ C.L
  l0 : C.h₀.get? L' = none
  lf : L' ∉ fp
  lb : C.hb.objs.size ≤ L'
  ln : ∃ m', h.Ns L' m'
theorem comp_core {elt target iter : Expr} {ifs : List Expr} {scope : Scope} {pos : Pos} {cl : List (Str × Addr)} {I D L' : Addr} {fp wr : List Addr} {N : Nat} {P : Nat → Value → Prop} {Sx : Nat → Heap → Prop} {ks : List (Addr × Obj)} {R : Result → Shared → Prop}
    (Wk : Walks X.prog X.w C.A I fp wr N P Sx) (hfx : ∀ i h b, b ∈ fp → Sx i h → ∃ o, h.get? b = some o)
    (go : ∀ i v E s (R : Unit → Shared → Prop), P i v → Sx (i + 1) s.heap → R () s → wpAny (model X.prog X.w) C.A (letOwnedTupleGo target (.ref I) v) R E s)
    (J : Nat → List Value → Hp → Prop) (hNs : N ≤ sizeLine)
    (step : ∀ i v ys h m' H, i < N → P i v → J i ys H → ys.length ≤ i → W X n { C with h₀ := h, L := L' } (assign target (compEnvC scope cl L' env) v) m' H (fun _ m₁ H₁ =>
      WTests X n { C with h₀ := h, L := L' } ifs (compEnvC scope cl L' env) m₁ H₁ (fun ok m₂ H₂ =>
        if ok = true then W X n { C with h₀ := h, L := L' } (eval elt (compEnvC scope cl L' env)) m₂ H₂ (fun y _ H₃ => J (i + 1) (ys ++ [y]) H₃) else J (i + 1) ys H₂)))
    (fin : ∀ ys H s, J N ys H → ys.length ≤ N → St X C m H s → Acc C H fp D L' ys s.heap → (∀ p ∈ ks, s.heap.get? p.1 = some p.2 ∧ H p.1 = none ∧ p.1 ≠ C.L) → R (.ok .next) s)
    {s : Shared} (a : AOk C.A n) (S : St X C m H s) (hJ : J 0 [] H) (hS : Sx 0 s.heap) (hA : Aside C H fp wr ks s.heap) (hC : Acc C H fp D L' [] s.heap) (hkD : ∀ p ∈ ks, p.1 ≠ D ∧ p.1 ≠ L') :
    codeAny (model X.prog X.w) C.A (.compStart (.ListComp elt [⟨target, iter, ifs, 0⟩] scope pos) 0 (.ref I) (.ref D) (compEnvC scope cl L' env)) R s := by
  have loop : codeAny (model X.prog X.w) C.A (.compLoop (.ListComp elt [⟨target, iter, ifs, 0⟩] scope pos) 0 (.ref I) (.ref D) (compEnvC scope cl L' env)) R s := by
    refine compLoop_go (fun k s => ∃ i ys H, St X C m H s ∧ J i ys H ∧ Sx i s.heap ∧ Aside C H fp wr ks s.heap ∧ Acc C H fp D L' ys s.heap ∧ ys.length ≤ i ∧ i ≤ N ∧ k = N + 1 - i) ?_ (N + 1) ⟨0, [], H, S, hJ, hS, hA, hC, Nat.le_refl _, Nat.zero_le _, rfl⟩
    rintro k s ⟨i, ys, H, S, hJ, hS, hA, hC, hy, hi, rfl⟩
    have hw : ∀ b ∈ wr, C.h₀.get? b = none ∧ H b = none ∧ b ≠ C.L := fun b hb => ⟨(hA.hwr b hb).1, (hA.hfp b (hA.hwr b hb).2).1, (hA.hfp b (hA.hwr b hb).2).2.1⟩
    have accW : ∀ h', (∀ b o, b ∉ wr → s.heap.get? b = some o → h'.get? b = some o) → Acc C H fp D L' ys h' := fun h' k' =>
      let ⟨kd, ed⟩ := hC.d; let ⟨m', en⟩ := hC.ln
      { hC with d := ⟨kd, k' _ _ (fun q => hC.df (hA.hwr _ q).2) ed⟩, ln := ⟨m', en.at' fun o e => k' _ _ (fun q => hC.lf (hA.hwr _ q).2) e⟩ }
    by_cases hlt : i < N
    · refine Wk.item i _ _ _ hlt hS fun v h' tk hP hS' k' => ?_
      have S' := S.wrote (tk := tk) k' hw
      have hA' := hA.next (h' := h') k' fun b hb => hfx _ _ b hb hS'
      have hC' := accW h' k'
      obtain ⟨kd, ed⟩ := hC'.d
      obtain ⟨m', en⟩ := hC'.ln
      refine go i v _ _ _ hP hS' ?_
      have Si := S'.inner en hC'.l hC'.l0 hC'.lb
      refine wpAny_mono ((step i v ys (hideL h' H L') m' H hlt hP hJ hy).go _ _ a Si) (fun _ s₂ ⟨m₂, H₂, S₂, z⟩ => ?_) fun _ _ e => e
      have back : ∀ {m₃ H₃ s₃}, St X { C with h₀ := hideL h' H L', L := L' } m₃ H₃ s₃ → St X C m H₃ s₃ ∧ Aside C H₃ fp wr ks s₃.heap ∧ Sx (i + 1) s₃.heap ∧ Acc C H₃ fp D L' ys s₃.heap := fun {m₃ H₃ s₃} S₃ => by
        have S₄ := S'.outer hC'.lL hC'.l0 S₃
        have kb : ∀ b o, h'.get? b = some o → H b = none → b ≠ L' → (s₃.heap.get? b = some o ∧ H₃ b = none) := fun b o e h1 h2 => by
          have e' : (hideL h' H L').get? b = some o := hideH_get e (by rw [upd_ne h2]; exact h1)
          refine ⟨S₃.kp _ _ e', ?_⟩
          cases q : H₃ b with
          | none => rfl
          | some ao => have := S₃.off q; exact nomatch e'.symm.trans this
        refine ⟨S₄, ⟨fun b hb => ?_, hA'.hwr, fun p hp => ?_⟩, ?_, ?_⟩
        · obtain ⟨p, q, o, e⟩ := hA'.hfp b hb
          obtain ⟨x, y⟩ := kb b o e p fun q => hC'.lf (q ▸ hb)
          exact ⟨y, q, o, x⟩
        · obtain ⟨e, p', q, d⟩ := hA'.hks p hp
          obtain ⟨x, y⟩ := kb _ _ e p' (hkD p hp).2
          exact ⟨x, y, q, d⟩
        · exact Wk.frame _ _ _ hS' fun b hb o e => (kb b o e (hA'.hfp b hb).1 fun q => hC'.lf (q ▸ hb)).1
        · obtain ⟨x, y⟩ := kb _ _ ed hC'.hd hC'.dl
          refine { hC' with d := ⟨kd, x⟩, hd := y, l := ?_, ln := ⟨_, S₃.fr.ns⟩ }
          cases q : H₃ L' with
          | none => rfl
          | some ao => exact absurd rfl (S₃.lh _ _ q)
      refine wpAny_mono ((wtests z).go _ _ a S₂) (fun ok s₃ ⟨m₃, H₃, S₃, z⟩ => ?_) fun _ _ e => e
      cases ok with
      | false =>
        obtain ⟨S₄, A₄, X₄, C₄⟩ := back S₃
        rw [if_neg (by decide)] at z ⊢
        exact ⟨_, by omega, i + 1, ys, H₃, S₄, z, X₄, A₄, C₄, Nat.le_succ_of_le hy, hlt, rfl⟩
      | true =>
        rw [if_pos rfl] at z ⊢
        refine wpAny_mono (z.go _ _ a S₃) (fun y s₄ ⟨m₄, H₄, S₄, z⟩ => ?_) fun _ _ e => e
        obtain ⟨S₅, A₅, X₅, C₅⟩ := back S₄
        obtain ⟨kd', ed'⟩ := C₅.d
        refine append_at (hsz := by rw [List.size_toArray]; omega) ed' fun h₆ hs₆ hD₆ => ?_
        have S₆ : St X C m H₄ { s₄ with heap := h₆ } := S₅.wrote (tk := s₄.toks) (wr := [D]) (fun b o hb e => hs₆.extBut b o (fun q => hb (List.mem_singleton.mpr q)) e)
          (fun b hb => by rw [List.mem_singleton.mp hb]; exact ⟨C₅.d0, C₅.hd, C₅.dL⟩)
        have kk : ∀ b o, b ≠ D → s₄.heap.get? b = some o → h₆.get? b = some o := fun b o hb e => hs₆.extBut b o hb e
        obtain ⟨m₅, en₅⟩ := C₅.ln
        refine ⟨_, by omega, i + 1, ys ++ [y], H₄, S₆, z, Wk.frame _ _ _ X₅ fun b hb o e => kk b o (fun q => C₅.df (q ▸ hb)) e, ⟨fun b hb => ?_, A₅.hwr, fun p hp => ?_⟩,
          { C₅ with d := ⟨_, by rw [hD₆, List.push_toArray]⟩, ln := ⟨m₅, en₅.at' fun o e => kk _ o (Ne.symm C₅.dl) e⟩ }, by simp; omega, hlt, rfl⟩
        · obtain ⟨p, q, o, e⟩ := A₅.hfp b hb; exact ⟨p, q, o, kk b o (fun q => C₅.df (q ▸ hb)) e⟩
        · obtain ⟨e, r⟩ := A₅.hks p hp; exact ⟨kk _ _ (hkD p hp).1 e, r⟩
    · have : i = N := by omega
      subst this
      refine Wk.done _ _ _ hS fun h' tk k' => ?_
      have S' := S.wrote (tk := tk) k' hw
      exact fin ys H _ hJ hy S' (accW h' k') fun p hp => let ⟨a, b, c, d⟩ := hA.hks p hp; ⟨k' _ _ d a, b, c⟩
  exact codeAny_compStart_list loop (Wk.self 0 _ _ _ hS loop)
end
end Mine
namespace Mine
open PySem.Calls PySem.Spec
section
variable {X : Fx} {n : Nat} {C : Cx} {m : Loc} {H : Hp} {env : Env}
def CompStep (X : Fx) (n : Nat) (C : Cx) (target : Expr) (ifs : List Expr) (elt : Expr) (scope : Scope) (cl : List (Str × Addr)) (env : Env) (N : Nat) (P : Nat → Value → Prop) (J : Nat → List Value → Hp → Prop) : Prop :=
  ∀ i v ys h L' m' H, i < N → P i v → J i ys H → ys.length ≤ i → W X n { C with h₀ := h, L := L' } (assign target (compEnvC scope cl L' env) v) m' H (fun _ m₁ H₁ =>
    WTests X n { C with h₀ := h, L := L' } ifs (compEnvC scope cl L' env) m₁ H₁ (fun ok m₂ H₂ =>
      if ok = true then W X n { C with h₀ := h, L := L' } (eval elt (compEnvC scope cl L' env)) m₂ H₂ (fun y _ H₃ => J (i + 1) (ys ++ [y]) H₃) else J (i + 1) ys H₂))
structure CompIn (X : Fx) (n : Nat) (C : Cx) (target : Expr) (ifs : List Expr) (elt : Expr) (scope : Scope) (cl : List (Str × Addr)) (xv : Value) (env : Env) (m : Loc) (H : Hp) (Fin : List Value → Hp → Prop) : Prop where
  of :: go : ∀ E s, AOk C.A n → St X C m H s → wpAny (model X.prog X.w) C.A (pyIter xv) (fun it s₂ => ∃ (I : Addr) (fp wr : List Addr) (N : Nat) (P : Nat → Value → Prop) (Sx : Nat → Heap → Prop) (ks : List (Addr × Obj)) (J : Nat → List Value → Hp → Prop) (H₁ : Hp),
    it = .ref I ∧ Walks X.prog X.w C.A I fp wr N P Sx ∧ (∀ i h b, b ∈ fp → Sx i h → ∃ o, h.get? b = some o) ∧
    (∀ i v E s (R : Unit → Shared → Prop), P i v → Sx (i + 1) s.heap → R () s → wpAny (model X.prog X.w) C.A (letOwnedTupleGo target (.ref I) v) R E s) ∧ N ≤ sizeLine ∧
    CompStep X n C target ifs elt scope cl env N P J ∧ J 0 [] H₁ ∧ St X C m H₁ s₂ ∧ Sx 0 s₂.heap ∧ Aside C H₁ fp wr ks s₂.heap ∧ (∀ b ∈ fp, b < s₂.heap.objs.size) ∧ (∀ p ∈ ks, p.1 < s₂.heap.objs.size) ∧
    (∀ ys H s, J N ys H → ys.length ≤ N → St X C m H s → (∀ p ∈ ks, s.heap.get? p.1 = some p.2 ∧ H p.1 = none ∧ p.1 ≠ C.L) → ∃ H', St X C m H' s ∧ Fin ys H' ∧ ∀ b, H b = none → (∀ p ∈ ks, p.1 ≠ b) → H' b = none)) E s
theorem comp_range {x : Str} {px : Pos} {ifs : List Expr} {elt : Expr} {scope : Scope} {cl : List (Str × Addr)} {r : Addr} {a b c : Int} {Fin : List Value → Hp → Prop} (hr : H r = some (.rng a b c)) (hsm : Builtin.Range.small a b c = true)
    (N : Nat) (hN : (Builtin.Range.rangeSize a b c).toNat = N) (hNs : N ≤ sizeLine) (J : Nat → List Value → Hp → Prop) (h0 : J 0 [] H)
    (step : CompStep X n C (.Name x px) ifs elt scope cl env N (fun i v => ∃ t, v = .int (a + i * c) t) J) (fin : ∀ ys H, J N ys H → ys.length ≤ N → Fin ys H) :
    CompIn X n C (.Name x px) ifs elt scope cl (.ref r) env m H Fin := .of fun E s ok S => by
  obtain ⟨o, ho, t, u, v, rfl⟩ := S.at hr
  refine wpAny_pyIter_range ho hsm ?_
  have hI : H s.heap.objs.size = none := S.fresh (Nat.le_refl _)
  have S' : St X C m H { s with heap := s.heap.push { cls := .type "range_iterator", data := .fields #[rawInt a, rawInt (Builtin.Range.rangeSize a b c), rawInt c] } } := S.kept (tk := s.toks) ((Keep.refl _).push _)
  have Wk := Walks.range (prog := X.prog) (w := X.w) ok.h s.heap.objs.size a c N
  refine ⟨_, _, _, N, _, _, [], J, H, rfl, Wk, fun i h b hb st => ?_, fun i v E s R _ _ q => go_name q, hNs, ?_, h0, S', ?_, ⟨fun b hb => ?_, fun b hb => ?_, fun p hp => nomatch hp⟩, fun b hb => ?_, fun p hp => (nomatch hp), fun ys H s hJ hl S _ => ⟨H, S, fin ys H hJ hl, fun _ q _ => q⟩⟩
  · rw [List.mem_singleton.mp hb]; exact ⟨_, st⟩
  · exact step
  · have : ((N : Nat) : Int) = Builtin.Range.rangeSize a b c := by rw [← hN]; exact Int.toNat_of_nonneg (rangeN a b c)
    simp only [Int.natCast_zero, Int.zero_mul, Int.add_zero, Int.sub_zero, this]
    exact Heap.get?_push_size _ rfl
  · rw [List.mem_singleton.mp hb]; exact ⟨hI, S.ne_of_size (Nat.le_refl _), _, Heap.get?_push_size _ rfl⟩
  · rw [List.mem_singleton.mp hb]; exact ⟨S.none_of_size (Nat.le_refl _), List.mem_singleton.mpr rfl⟩
  · rw [List.mem_singleton.mp hb]; show _ < (s.heap.push _).objs.size; rw [Heap.size_push]; exact Nat.lt_succ_self _
theorem comp_list {target : Expr} {ifs : List Expr} {elt : Expr} {scope : Scope} {cl : List (Str × Addr)} {l : Addr} {xs : List Value} {Fin : List Value → Hp → Prop} (hl : H l = some (.list xs)) (hNs : xs.length ≤ sizeLine)
    (hg : (∃ x p, target = .Name x p) ∨ ((∃ elts k p, target = .Tuple elts k p) ∧ ∀ v ∈ xs, ∃ T, v = .ref T))
    (J : Nat → List Value → Hp → Prop) (h0 : J 0 [] (del H l))
    (step : CompStep X n C target ifs elt scope cl env xs.length (fun i v => xs[i]? = some v) J) (fin : ∀ ys H, J xs.length ys H → ys.length ≤ xs.length → H l = none → Fin ys (upd H l (.list xs))) :
    CompIn X n C target ifs elt scope cl (.ref l) env m H Fin := .of fun E s ok S => by
  obtain ⟨o, ho, e, rfl⟩ := S.at hl
  have hls := S.isList hl
  refine wpAny_pyIter_list hls ?_
  have hne : l ≠ s.heap.objs.size := Nat.ne_of_lt (Heap.lt_size ho)
  have hI : H s.heap.objs.size = none := S.fresh (Nat.le_refl _)
  have S' : St X C m (del H l) { s with heap := s.heap.push { cls := .type "list_iterator", data := .fields #[.ref l, .int 0 0] } } := (S.kept (tk := s.toks) ((Keep.refl _).push _)).less fun a ao q => (del_of q).1
  have hlL := S.lh l _ hl
  have eN : xs.toArray.size = xs.length := List.size_toArray ..
  have Wk := Walks.list (prog := X.prog) (w := X.w) ok.h s.heap.objs.size l hne xs.toArray
  rw [eN] at Wk
  refine ⟨_, _, _, xs.length, _, _, [(l, { cls := .type "list", data := .seq xs.toArray e })], J, del H l, rfl, Wk, fun i h b hb st => ?_, fun i v E s R hP hS q => ?_, hNs, ?_, h0, S', ?_, ⟨fun b hb => ?_, fun b hb => ?_, fun p hp => ?_⟩, fun b hb => ?_, fun p hp => ?_, fun ys H s hJ hy S' hk => ?_⟩
  · rcases List.mem_cons.mp hb with rfl | hb
    · obtain ⟨o, q, _⟩ := st.1; exact ⟨o, q⟩
    · rw [List.mem_singleton.mp hb]; obtain ⟨o, q, _⟩ := st.2; exact ⟨o, q⟩
  · rcases hg with ⟨x, p, rfl⟩ | ⟨⟨elts, k, p, rfl⟩, hr⟩
    · exact go_name q
    · have hv : v ∈ xs := by
        have : xs[i]? = some v := by simpa using hP
        exact List.mem_of_getElem? this
      obtain ⟨T, rfl⟩ := hr v hv
      exact wpAny_letOwnedTupleGo_listiter hS.1 q
  · intro i v ys h L' m' H hi hP hJ hy
    exact step i v ys h L' m' H hi (by simpa using hP) hJ hy
  · exact ⟨⟨_, Heap.get?_push_size _ rfl, rfl, rfl⟩, hls.push _⟩
  · rcases List.mem_cons.mp hb with rfl | hb
    · exact ⟨by rw [del_ne (Ne.symm hne)]; exact hI, S.ne_of_size (Nat.le_refl _), _, Heap.get?_push_size _ rfl⟩
    · rw [List.mem_singleton.mp hb]; exact ⟨del_self _ _, hlL, _, Heap.get?_push_of_some _ ho⟩
  · rw [List.mem_singleton.mp hb]; exact ⟨S.none_of_size (Nat.le_refl _), .head _⟩
  · rw [List.mem_singleton.mp hp]
    exact ⟨Heap.get?_push_of_some _ ho, del_self _ _, hlL, fun q => hne (List.mem_singleton.mp q)⟩
  · show _ < (s.heap.push _).objs.size
    rw [Heap.size_push]
    rcases List.mem_cons.mp hb with rfl | hb
    · exact Nat.lt_succ_self _
    · rw [List.mem_singleton.mp hb]; exact Nat.lt_succ_of_lt (Heap.lt_size ho)
  · rw [List.mem_singleton.mp hp]; show _ < (s.heap.push _).objs.size; rw [Heap.size_push]; exact Nat.lt_succ_of_lt (Heap.lt_size ho)
  · obtain ⟨q1, q2, q3⟩ := hk _ (List.mem_singleton.mpr rfl)
    refine ⟨upd H l (.list xs), ⟨S'.g, S'.fr, S'.bb, S'.kp, S'.nl, fun b bo q => ?_, fun b bo q => ?_, S'.same⟩, fin ys H hJ hy q2, fun b hb hp => ?_⟩
    · by_cases h : b = l
      · subst h; rw [upd_self] at q; cases q; exact ⟨_, q1, ⟨e, rfl⟩, S.off hl⟩
      · rw [upd_ne h] at q; exact S'.hin b bo q
    · by_cases h : b = l
      · subst h; exact q3
      · rw [upd_ne h] at q; exact S'.lh b bo q
    · rw [upd_ne (Ne.symm (hp _ (List.mem_singleton.mpr rfl)))]; exact hb
theorem St.put {D : Addr} {ao : AO} {o : Obj} {s : Shared} (S : St X C m H s) (e : s.heap.get? D = some o) (i : ao.Is o) (h0 : C.h₀.get? D = none) (hL : D ≠ C.L) : St X C m (upd H D ao) s :=
  ⟨S.g, S.fr, S.bb, S.kp, S.nl, fun b bo q => by
    by_cases h : b = D
    · subst h; rw [upd_self] at q; cases q; exact ⟨_, e, i, h0⟩
    · rw [upd_ne h] at q; exact S.hin b bo q, fun b bo q => by
    by_cases h : b = D
    · subst h; exact hL
    · rw [upd_ne h] at q; exact S.lh b bo q, S.same⟩
theorem comp_run {target iter : Expr} {ifs : List Expr} {elt : Expr} {scope : Scope} {cl : List (Str × Addr)} {pos : Pos} {xv : Value} {Fin : List Value → Hp → Prop} {RR : Value → Addr → Result → Shared → Prop}
    (h : CompIn X n C target ifs elt scope cl xv env m H Fin) (hcell : ∀ y ∈ scope.names, y.2 ≠ .cell) (hkind : scope.kind = .function)
    (fin : ∀ D L' ys H H₁ fp s, Fin ys H → H D = none → St X C m H s → H L' = none → Acc C H₁ fp D L' ys s.heap → RR (.ref D) L' (.ok .next) s) {E : Value → Shared → Prop} {s : Shared} (a : AOk C.A n) (S : St X C m H s) :
    wpAny (model X.prog X.w) C.A (pyIter xv) (fun it s₂ => wpAny (model X.prog X.w) C.A (newList []) (fun acc s₃ => wpAny (model X.prog X.w) C.A (newFunctionEnv scope env.globals cl [] env.qual none .none (some env)) (fun cenv s₄ =>
      codeAny (model X.prog X.w) C.A (.compStart (.ListComp elt [⟨target, iter, ifs, 0⟩] scope pos) 0 it acc { cenv with scope := relabel scope env }) (RR acc cenv.locals) s₄) E s₃) E s₂) E s := by
  refine wpAny_mono (h.go E s a S) (fun it s₂ z => ?_) fun _ _ e => e
  obtain ⟨I, fp, wr, N, P, Sx, ks, J, H₁, rfl, Wk, hfx, go, hNs, step, hJ, S₂, hS, hA, hfp, hks, back⟩ := z
  refine wpAny_newObj_type (wpAny_newFunctionEnv hcell (by intro y hy; simp at hy) (fun h₁ hns₁ hsb₁ => ?_) hkind)
  dsimp only at hns₁ hsb₁ ⊢
  have k1 : Keep s₂.heap (s₂.heap.push { cls := .type "list", dict := none, data := .seq ([] : List Value).toArray }) := (Keep.refl _).push _
  have lt : ∀ b, b < s₂.heap.objs.size → b ≠ (s₂.heap.push { cls := .type "list", dict := none, data := .seq ([] : List Value).toArray }).objs.size := fun b hb => by rw [Heap.size_push]; exact Nat.ne_of_lt (Nat.lt_succ_of_lt hb)
  have hLe : s₂.heap.objs.size ≤ (s₂.heap.push { cls := .type "list", dict := none, data := .seq ([] : List Value).toArray }).objs.size := by rw [Heap.size_push]; exact Nat.le_succ _
  have hDL : s₂.heap.objs.size ≠ (s₂.heap.push { cls := .type "list", dict := none, data := .seq ([] : List Value).toArray }).objs.size := by rw [Heap.size_push]; exact Nat.ne_of_lt (Nat.lt_succ_self _)
  have kk : Keep s₂.heap h₁ := fun b o e => hsb₁.extBut b o (lt b (Heap.lt_size e)) (Heap.get?_push_of_some _ (k1 b o e))
  have S₄ : St X C m H₁ { s₂ with heap := h₁, toks := s₂.toks + ([] : List (Str × Value)).length } := S₂.kept kk
  have hdD : h₁.get? s₂.heap.objs.size = some { cls := .type "list", data := .seq ([] : List Value).toArray } := hsb₁.extBut _ _ hDL (Heap.get?_push_of_some _ (Heap.get?_push_size _ rfl))
  have hAs : Aside C H₁ fp wr ks h₁ := ⟨fun b hb => let ⟨p, q, o, e⟩ := hA.hfp b hb; ⟨p, q, o, kk b o e⟩, hA.hwr, fun p hp => let ⟨e, r⟩ := hA.hks p hp; ⟨kk _ _ e, r⟩⟩
  refine comp_core (N := N) (ks := ks) Wk hfx go J hNs (fun i v ys h m' H hi hP hJ hy => step i v ys h _ m' H hi hP hJ hy) (fun ys H s hJ hy S hC hk => ?_) a S₄ hJ (Wk.frame _ _ _ hS fun b _ o e => kk b o e) hAs ?_ fun p hp => ?_
  · obtain ⟨H', S', hF, hn⟩ := back ys H s hJ hy S hk
    exact fin _ _ _ H' _ _ _ hF (hn _ hC.hd fun p hp => Nat.ne_of_lt (hks p hp)) S' (hn _ hC.l fun p hp => lt _ (hks p hp)) hC
  · exact ⟨⟨_, hdD⟩, S₂.fresh (Nat.le_refl _), S₂.ne_of_size (Nat.le_refl _), S₂.none_of_size (Nat.le_refl _), fun q => Nat.lt_irrefl _ (hfp _ q), hDL, S₂.fresh hLe, S₂.ne_of_size hLe, S₂.none_of_size hLe, fun q => lt _ (hfp _ q) rfl,
      Nat.le_trans S₂.fr.above (Nat.le_trans (Nat.le_of_lt S₂.fr.ns.lt) hLe), ⟨_, hns₁⟩⟩
  · exact ⟨Nat.ne_of_lt (hks p hp), lt _ (hks p hp)⟩
theorem St.gone {s : Shared} (S : St X C m H s) {L' : Addr} (hn : H L' = none) (hL : L' ≠ C.L) (h0 : C.h₀.get? L' = none) {h' : Heap} (hs : Heap.SameBut L' s.heap h') : St X C m H { s with heap := h' } :=
  S.wrote (tk := s.toks) (wr := [L']) (fun b o hb e => hs.extBut b o (fun q => hb (List.mem_singleton.mpr q)) e) fun b hb => by rw [List.mem_singleton.mp hb]; exact ⟨h0, hn, hL⟩
theorem w_AssignComp {target iter : Expr} {ifs : List Expr} {elt : Expr} {scope : Scope} {pos py spos : Pos} {y : Str} {Q : Flow → Loc → Hp → Prop} (cl : List (Str × Addr)) (hclos : closureFor scope env = pure cl)
    (h : W X n C (eval iter env) m H (fun xv m₁ H₁ => CompIn X n C target ifs elt scope cl xv env m₁ H₁ (fun ys H₂ => ∀ D, H₂ D = none → Q .next (setm m₁ y (.ref D)) (upd H₂ D (.list ys)))))
    (hsw : swapsWith (.ListComp elt [⟨target, iter, ifs, 0⟩] scope pos) (some (.Name y py)) spos.line env = pure true := by rfl)
    (hcell : ∀ y ∈ scope.names, y.2 ≠ .cell := by decide) (hkind : scope.kind = .function := by rfl) (hnames : ∀ y ∈ scope.names, y.2 = .local → scope.names.lookup y.1 = some .local := by decide)
    (hL : env.locals = C.L := by rfl) (hk : env.scope.kind = .function := by rfl) (hl : env.kindOf y = some .local := by rfl)
    (hs : ∀ x, foldedSetIterable iter env x = pure x := by intro _; rfl) : W X n C (exec (.Assign [.Name y py] (.ListComp elt [⟨target, iter, ifs, 0⟩] scope pos) spos) env) m H Q := w_of fun E s a S => by
  rw [exec_Assign_Name_used _ _ _ _ hsw]
  refine wpAny_bind (wpAny_standAt (wpAny_bind ?_))
  show wpAny _ _ (do let _ ← comprehension (.ListComp elt [⟨target, iter, ifs, 0⟩] scope pos) scope env _ (newList []) false (eval iter env) (some (assign (.Name y py) env))) _ _ s
  refine wpAny_bind (wpAny_mono (wpAny_comprehension_free (use := some (assign (.Name y py) env)) (Q := fun _ s' => ∃ m' H', St X C m' H' s' ∧ Q .next m' H') rfl hs hclos hkind hnames
    (wpAny_mono (h.go E s a S) (fun xv s₁ ⟨m₁, H₁, S₁, z⟩ => ?_) fun _ _ e => e)) (fun _ s' hq => wpAny_pure (wpAny_pure hq)) fun _ _ e => e)
  refine comp_run (RR := fun acc L r s' => compPost (model X.prog X.w) C.A E (some (assign (.Name y py) env)) _ acc L r s') z hcell hkind ?_ a S₁
  intro D L' ys H₂ H₃ fp s' hF hD S' hL' hC
  obtain ⟨m', en⟩ := hC.ln
  obtain ⟨kd, ed⟩ := hC.d
  have S₅ : St X C m₁ (upd H₂ D (.list ys)) s' := S'.put (ao := .list ys) ed ⟨kd, rfl⟩ hC.d0 hC.dL
  show wpAny _ _ (assign (.Name y py) env (.ref D)) _ _ _
  refine wpAny_assign_Name (wpAny_storeName_local hl (hL ▸ S₅.fr.ns) (fun h₂ hn₂ hs₂ => ?_) (by rw [hk]; rfl))
  have S₆ : St X C (setm m₁ y (.ref D)) (upd H₂ D (.list ys)) { s' with heap := h₂, toks := s'.toks + 1 } := S₅.loc (hL ▸ hn₂) (hL ▸ hs₂)
  refine ⟨m', en.sameBut hs₂ (hL ▸ hC.lL), fun h₃ hs₃ => ?_⟩
  exact ⟨_, _, S₆.gone (by rw [upd_ne (Ne.symm hC.dl)]; exact hL') hC.lL hC.l0 hs₃, hF D hD⟩
end
end Mine
namespace Mine
open PySem.Calls PySem.Spec
section
variable {X : Fx} {n : Nat} {H : Hp} {name qual : Str} {params : Arguments} {body : List Stmt} {scope : Scope} {dV kV doc pm cdv ct oc : Value} {an od : Option Addr} {osl : Array (Option Value)} {f : Addr} {args : List Value} {Q : Value → Hp → Prop}
theorem spec_fn (names : List Str) (ho : X.K.lookup f = some ⟨oc, od, .func (fnOf name qual params body scope dV kV doc pm an cdv ct), osl⟩) (hcd : codeIn X.K cdv qual = true)
    (hbind : bindArgs (fnOf name qual params body scope dV kV doc pm an cdv ct) ⟨args, []⟩ = pure (names.zip args)) (hcell : scope.names.all (fun x => x.2 != .cell) = true) (hloc : names.all (fun x => scope.names.lookup x == some .local) = true)
    (h : ∀ C : Cx, W X n C (execs body (envOf qual scope C.L f cdv)) (fun y => (names.zip args).reverse.lookup y) H (fun fl _ H' => Q (retOf fl) H'))
    (hco : scope.isCoroutine = false := by rfl) (hgen : scope.isGenerator = false := by rfl) (hk : scope.kind = .function := by rfl) : Spec X (n + 1) (.ref f) args H Q :=
  spec_def ho hcd hbind (fun x hx => by simpa using (List.all_eq_true.mp hcell) x hx) (fun x hx => by
    have := (List.all_eq_true.mp hloc) x.1 (List.of_mem_zip hx).1
    simpa using this) h hco hgen hk
end
section
variable {X : Fx} {n : Nat} {C : Cx} {m : Loc} {H : Hp} {env : Env}
theorem w_range3 {i j k : Int} {t u v : Tok} {Q : Value → Loc → Hp → Prop} (hk : k ≠ 0) (hp : Builtin.divisionGoesByPylong (j - i) k = false) (q : ∀ r, H r = none → Q (.ref r) m (upd H r (.rng i j k))) : W X n C (call (.type "range") [.int i t, .int j u, .int k v]) m H Q := w_of fun E s a S =>
  call_range_3 hk ⟨m, _, S.push (ao := .rng i j k) ⟨_, _, _, rfl⟩, q _ (S.fresh (Nat.le_refl _))⟩ (.inl hp)
end
theorem noPylong {x y : Int} (h : y.natAbs < 2 ^ 9000) : Builtin.divisionGoesByPylong x y = false := by
  have hl : ∀ n : Int, n.natAbs < 2 ^ 9000 → (if n == 0 then 0 else n.natAbs.log2 / 30 + 1) ≤ 300 := fun n h => by
    split
    · omega
    · have h0 : n.natAbs ≠ 0 := by rename_i h; simpa using h
      have : n.natAbs.log2 < 9000 := (Nat.log2_lt h0).mpr h
      omega
  unfold Builtin.divisionGoesByPylong
  have := hl y h
  simp only [Bool.and_eq_false_iff, decide_eq_false_iff_not]
  left
  exact Nat.not_lt.mpr this
theorem noPylong_of {x y : Int} (h0 : 0 ≤ y) (h : y < 1000000000000) : Builtin.divisionGoesByPylong x y = false := noPylong (Nat.lt_trans (show y.natAbs < 1000000000000 by omega) (by decide +kernel))
end Mine
namespace Mine
open PySem.Calls PySem.Spec
section
variable {X : Fx} {n : Nat} {C : Cx} {m : Loc} {H : Hp} {env : Env}
/-! writing a field that stands already -/
theorem putL_len' {name : Str} {hsh : Int} {key v : Value} : ∀ {es : List DictEntry}, (es.find? (·.key.isStr name)).isSome = true → (putL name hsh key v es).length = es.length
  | [], h => by simp at h
  | a :: r, h => by
    rw [putL]
    split
    · rfl
    · rename_i hn
      have : (r.find? (·.key.isStr name)).isSome = true := by
        rw [List.find?_cons] at h
        cases q : a.key.isStr name with
        | true => exact absurd q hn
        | false => rw [q] at h; exact h
      rw [List.length_cons, putL_len' this, List.length_cons]
theorem w_reset {x Cl dx : Addr} {f : Loc} {k : Nat} {name : Str} {v v₀ : Value} {Q : Unit → Loc → Hp → Prop} (hx : H x = some (.inst Cl dx)) (hd : H dx = some (.ns f k)) (h₀ : f name = some v₀) (hk : k ≤ 900)
    (hs : findIn X.K (.ref Cl) "__setattr__" = some (some (.builtin "object.__setattr__"))) (hp : plainOver X.K Cl = true) (ht : takerIn X.K Cl name = some none) (hh : hasDictIn X.K Cl = true)
    (q : Q () m (upd H dx (.ns (setm f name v) k))) : W X n C (setAttr (.ref x) name v) m H Q := w_of fun E s a S => by
  obtain ⟨es, e, I, D, sk, hf, hl⟩ := inst_at S hx hd
  have X₀ := S.k
  refine set_plain X₀ I hs ?_
  refine osa_open (s := { s with toks := s.toks + 1 }) X₀ I hp ht fun b => ?_
  obtain ⟨cd, hc, hd'⟩ := any_some hh
  have D' : (s.heap.update dx (Obj.putName name (PyData.keyHash X.w.params name) (.str name (s.toks + 1)) v)).get? dx = some (dictOf (putL name (PyData.keyHash X.w.params name) (.str name (s.toks + 1)) v es) (putN name es e)) := by
    rw [Heap.get?_update_self _ D (by rw [putName_dict]; rfl), putName_dict]
  have hlen : (putL name (PyData.keyHash X.w.params name) (.str name (s.toks + 1)) v es).length = es.length := putL_len' (by
    have := hf name
    rw [nsFind_list, h₀] at this
    cases q : es.find? (·.key.isStr name) with
    | none => rw [q] at this; cases this
    | some _ => rfl)
  refine wpAny_bind (wpAny_pure (wpAny_bind (wpAny_bind (wpAny_loadPart I.at_ (wpAny_bind (looks_clsIn X₀ hc _ _ _ { s with toks := s.toks + 1 } (fun _ _ e => e) ?_))))))
  rw [hd']
  refine wpAny_pure (a := some dx) (wpAny_bind (wpAny_pure (wpAny_bind ?_)))
  unfold nsSet
  refine wpAny_bind (wpAny_bind (wpAny_askSetting (wpAny_pure (wpAny_bind (wpAny_mkText (wpAny_bind (wpAny_loadPart D ?_)))))))
  have c : (!es.toArray.any (·.key.isStr name) && es.toArray.any (·.refKey)) = false := by
    have : es.toArray.any (·.refKey) = false := by
      rw [Array.any_eq_false']; intro e he; obtain ⟨n, t, h⟩ := sk e he; simp [DictEntry.refKey, h]
    rw [this, Bool.and_false]
  dsimp only
  rw [aRefKeyMayBeTheName_at, c]
  refine wpAny_updatePart D ?_
  refine wpAny_bind (wpAny_lookBehind D' (pastItsLine_dict (by rw [List.size_toArray, sizeLine_eq]; omega)) ?_)
  refine wpAny_pure ?_
  refine ⟨m, _, S.turn (ao' := .ns (setm f name v) k) hd (Heap.SameBut.update ..).extBut D' ⟨_, _, rfl, putL_strKeys sk, fun y => ?_, by omega⟩, q⟩
  rw [nsFind_list, putL_find' (fun e he => sk e (by simpa using he)), ← nsFind_list, hf]; rfl
/-! branches -/
theorem if_dec {p : Prop} [Decidable p] {A B : Prop} (h1 : p → A) (h2 : ¬p → B) : if decide p = true then A else B := by
  by_cases h : p
  · rw [if_pos (by simpa using h)]; exact h1 h
  · rw [if_neg (by simpa using h)]; exact h2 h
theorem if_beq {a b : Int} {A B : Prop} (h1 : a = b → A) (h2 : a ≠ b → B) : if (a == b) = true then A else B := by
  by_cases h : a = b
  · rw [if_pos (by simpa using h)]; exact h1 h
  · rw [if_neg (by simpa using h)]; exact h2 h
theorem if_bne {a b : Int} {A B : Prop} (h1 : a ≠ b → A) (h2 : a = b → B) : if (a != b) = true then A else B := by
  by_cases h : a = b
  · rw [if_neg (by simpa using h)]; exact h2 h
  · rw [if_pos (by simpa using h)]; exact h1 h
theorem if_true {A B : Prop} (h : A) : if true = true then A else B := by rw [if_pos rfl]; exact h
theorem if_false {A B : Prop} (h : B) : if false = true then A else B := by rw [if_neg (by decide)]; exact h
end
/-! the memory -/
structure Mm where
  a : Addr
  d : Addr
  w : Addr
def Words (g : Int → Option Value) (M : Int → Int) : Prop := (∀ k, g k = none → M k = 0) ∧ ∀ k v, g k = some v → (0 ≤ k ∧ k < 2048) ∧ ∃ t, v = .int (M k) t
def memF (w : Addr) (t : Tok) : Loc := setm (setm (fun _ => none) "size" (.int 8192 t)) "words" (.ref w)
structure MS (CM : Addr) (y : Mm) (R : Hp) (M : Int → Int) (H : Hp) : Prop where
  a : H y.a = some (.inst CM y.d)
  d : ∃ t, H y.d = some (.ns (memF y.w t) 2)
  w : ∃ g, H y.w = some (.map g) ∧ Words g M
  r : ∀ b ao, R b = some ao → H b = some ao ∧ b ≠ y.a ∧ b ≠ y.d ∧ b ≠ y.w
def wr (M : Int → Int) (x v : Int) : Int → Int := fun k => if k = x / 4 then v % 4294967296 else M k
section
variable {CM : Addr} {y : Mm} {R R' : Hp} {M : Int → Int} {H : Hp}
theorem MS.get (S : MS CM y R M H) {b : Addr} {ao : AO} (h : R b = some ao) : H b = some ao := (S.r b ao h).1
theorem MS.less (S : MS CM y R M H) (h : ∀ b ao, R' b = some ao → R b = some ao) : MS CM y R' M H := ⟨S.a, S.d, S.w, fun b ao e => S.r b ao (h b ao e)⟩
/-- an object beside the memory turns or is new -/
theorem MS.upd (S : MS CM y R M H) {b : Addr} {ao : AO} (h : H b = none ∨ ∃ ao₀, R b = some ao₀) : MS CM y (upd R b ao) M (upd H b ao) := by
  have hb : b ≠ y.a ∧ b ≠ y.d ∧ b ≠ y.w := by
    rcases h with h | ⟨ao₀, h⟩
    · refine ⟨fun e => ?_, fun e => ?_, fun e => ?_⟩
      · subst e; rw [S.a] at h; cases h
      · subst e; obtain ⟨t, e⟩ := S.d; rw [e] at h; cases h
      · subst e; obtain ⟨g, e, _⟩ := S.w; rw [e] at h; cases h
    · exact (S.r b ao₀ h).2
  refine ⟨by rw [upd_ne (Ne.symm hb.1)]; exact S.a, ?_, ?_, fun c co e => ?_⟩
  · obtain ⟨t, e⟩ := S.d; exact ⟨t, by rw [upd_ne (Ne.symm hb.2.1)]; exact e⟩
  · obtain ⟨g, e, w⟩ := S.w; exact ⟨g, by rw [upd_ne (Ne.symm hb.2.2)]; exact e, w⟩
  · by_cases q : c = b
    · subst q; rw [upd_self] at e ⊢; exact ⟨e, hb⟩
    · rw [upd_ne q] at e ⊢; exact S.r c co e
theorem MS.new (S : MS CM y R M H) {b : Addr} {ao : AO} (h : H b = none) : MS CM y (Mine.upd R b ao) M (Mine.upd H b ao) := S.upd (.inl h)
theorem MS.set (S : MS CM y R M H) {b : Addr} {ao ao₀ : AO} (h : R b = some ao₀) : MS CM y (Mine.upd R b ao) M (Mine.upd H b ao) := S.upd (.inr ⟨_, h⟩)
theorem MS.add (S : MS CM y R M H) {b : Addr} {ao : AO} (h : H b = none) : MS CM y R M (Mine.upd H b ao) := (S.new (ao := ao) h).less fun c co e => by
  by_cases q : c = b
  · subst q; rw [S.get e] at h; cases h
  · rw [upd_ne q]; exact e
theorem MS.fresh (S : MS CM y R M H) {b : Addr} (h : H b = none) : R b = none := by
  cases q : R b with
  | none => rfl
  | some ao => rw [S.get q] at h; cases h
theorem MS.put (S : MS CM y R M H) {g : Int → Option Value} (hg : H y.w = some (.map g)) {x v : Int} (h0 : 0 ≤ x) (h1 : x < 8192) (t : Tok) (hw : Words g M) (hwa : y.w ≠ y.a) (hwd : y.w ≠ y.d) :
    MS CM y R (wr M x v) (Mine.upd H y.w (.map fun k => if k = x / 4 then some (.int (v % 4294967296) t) else g k)) := by
  refine ⟨by rw [upd_ne (Ne.symm hwa)]; exact S.a, ?_, ⟨_, upd_self _ _ _, fun k e => ?_, fun k u e => ?_⟩, fun b ao e => ?_⟩
  · obtain ⟨t, e⟩ := S.d; exact ⟨t, by rw [upd_ne (Ne.symm hwd)]; exact e⟩
  · by_cases q : k = x / 4
    · subst q; simp at e
    · simp only [if_neg q] at e; unfold wr; rw [if_neg q]; exact hw.1 k e
  · by_cases q : k = x / 4
    · subst q; simp only [if_true] at e; cases e; refine ⟨by omega, t, ?_⟩; unfold wr; rw [if_pos rfl]
    · simp only [if_neg q] at e; unfold wr; rw [if_neg q]; exact hw.2 k u e
  · obtain ⟨e1, e2, e3, e4⟩ := S.r b ao e; exact ⟨by rw [upd_ne e4]; exact e1, e2, e3, e4⟩
theorem MS.wa (S : MS CM y R M H) : y.w ≠ y.a := fun e => by obtain ⟨g, h, _⟩ := S.w; rw [e, S.a] at h; cases h
theorem MS.wd (S : MS CM y R M H) : y.w ≠ y.d := fun e => by obtain ⟨g, h, _⟩ := S.w; obtain ⟨t, h'⟩ := S.d; rw [e, h'] at h; cases h
end
end Mine
namespace Mine
open PySem.Calls PySem.Spec
structure GetOk (K : Frag) (C : Addr) (name : Str) : Prop where
  g : plainGet K C name = true
  h : hasDictIn K C = true
  a : findIn K (.ref C) name = some none
structure MethOk (K : Frag) (C : Addr) (name : Str) (f : Addr) : Prop where
  g : plainGet K C name = true
  m : findIn K (.ref C) name = some (some (.ref f))
  t : isFn K (.ref f) = true
  k : keepIn K (.ref f) = true
structure SetOk (K : Frag) (C : Addr) (name : Str) : Prop where
  s : findIn K (.ref C) "__setattr__" = some (some (.builtin "object.__setattr__"))
  p : plainOver K C = true
  t : takerIn K C name = some none
  h : hasDictIn K C = true
structure FnOk (K : Frag) (name : Str) (f : Addr) : Prop where
  n : nsIn K mainGlobals name = some (some (.ref f))
  k : keepIn K (.ref f) = true
structure BuiltOk (K : Frag) (name : Str) (v : Value) : Prop where
  n : nsIn K mainGlobals name = some none
  b : bootBuiltins name = some v
section
variable {X : Fx} {n : Nat} {C : Cx} {m : Loc} {H : Hp} {env : Env}
theorem w_field {x Cl dx : Addr} {f : Loc} {k : Nat} {name : Str} {v : Value} {ex : Bool} {Q : Value → Loc → Hp → Prop} (o : GetOk X.K Cl name) (hx : H x = some (.inst Cl dx)) (hd : H dx = some (.ns f k)) (hv : f name = some v)
    (hn : handedIn v = true) (q : Q v m H) : W X n C (getAttr (.ref x) name ex) m H Q := w_get hx hd hv o.g o.h o.a hn q
theorem w_meth {x Cl dx g : Addr} {f : Loc} {k : Nat} {name : Str} {pl : Sem Bool} {Q : Value × List Value → Loc → Hp → Prop} (o : MethOk X.K Cl name g) (hx : H x = some (.inst Cl dx)) (hd : H dx = some (.ns f k)) (hv : f name = none)
    (q : Q (.ref g, [.ref x]) m H) : W X n C (getMethod (.ref x) name pl) m H Q := w_method hx hd hv o.g o.m o.t q
theorem w_bi {x : Str} {pos : Pos} {v : Value} {Q : Value → Loc → Hp → Prop} (o : BuiltOk X.K x v) (q : Q v m H)
    (hx : x ≠ "__name__" := by decide) (hG : env.globals = mainGlobals := by kernel_rfl) (hB : env.builtins = builtinsNs := by kernel_rfl) (hk : env.scope.kind = .function := by kernel_rfl) (hl : env.kindOf x = some .globalImplicit := by kernel_rfl) (hd : (x == ("__debug__" : Str)) = false := by kernel_rfl) :
    W X n C (eval (.Name x pos) env) m H Q := w_builtin o.n o.b q hx hG hB hk hl hd
theorem g_execs {b : List Stmt} {Q : Flow → Loc → Hp → Prop} (h : W X n C (execs b env) m H Q) : W X n C (execs b env) m H Q := h
theorem g_exec {b : Stmt} {Q : Flow → Loc → Hp → Prop} (h : W X n C (exec b env) m H Q) : W X n C (exec b env) m H Q := h
theorem g_assign {x : Expr} {pos : Pos} {v : Expr} {Q : Flow → Loc → Hp → Prop} (h : W X n C (exec (.Assign [x] v pos) env) m H Q) : W X n C (exec (.Assign [x] v pos) env) m H Q := h
theorem g_name {x : Str} {pos : Pos} {Q : Value → Loc → Hp → Prop} (h : W X n C (eval (.Name x pos) env) m H Q) : W X n C (eval (.Name x pos) env) m H Q := h
theorem g_call {f : Expr} {as : List Expr} {kw : List Keyword} {pos : Pos} {Q : Value → Loc → Hp → Prop} (h : W X n C (eval (.Call f as kw pos) env) m H Q) : W X n C (eval (.Call f as kw pos) env) m H Q := h
theorem g_eval {e : Expr} {Q : Value → Loc → Hp → Prop} (h : W X n C (eval e env) m H Q) : W X n C (eval e env) m H Q := h
theorem g_isTrue {e : Expr} {wh : Sem Value} {Q : Bool → Loc → Hp → Prop} (h : W X n C (isTrue e env wh) m H Q) : W X n C (isTrue e env wh) m H Q := h
theorem g_load {x : Str} {Q : Value → Loc → Hp → Prop} (h : W X n C (loadName env x) m H Q) : W X n C (loadName env x) m H Q := h
theorem g_store {x : Str} {v : Value} {Q : Unit → Loc → Hp → Prop} (h : W X n C (storeName env x v) m H Q) : W X n C (storeName env x v) m H Q := h
theorem g_bin {op : Operator} {a b : Value} {Q : Value → Loc → Hp → Prop} (h : W X n C (binaryOp op a b) m H Q) : W X n C (binaryOp op a b) m H Q := h
theorem g_cmp {op : CmpOp} {a b : Value} {Q : Value → Loc → Hp → Prop} (h : W X n C (compareOp op a b) m H Q) : W X n C (compareOp op a b) m H Q := h
theorem g_spl {as : List (Bool × Sem Value)} {Q : List Value → Loc → Hp → Prop} (h : W X n C (spliced as) m H Q) : W X n C (spliced as) m H Q := h
end
def lnum (s : Int) : Int := if s < 32 then 0 else if s < 64 then 1 else if s < 128 then 2 else 3
end Mine
namespace Mine
open PySem.Calls PySem.Spec
structure Yd where
  mm : Mm
  hp : Addr
  hd : Addr
def heapF (mem : Addr) (st lim : Int) (fl : Addr) (t1 t2 : Tok) : Loc := setm (setm (setm (setm (fun _ => none) "memory" (.ref mem)) "start" (.int st t1)) "limit" (.int lim t2)) "free" (.ref fl)
theorem heapF_free (mem : Addr) (st lim : Int) (fl fl' : Addr) (t1 t2 : Tok) : setm (heapF mem st lim fl t1 t2) "free" (.ref fl') = heapF mem st lim fl' t1 t2 := by
  funext x; unfold heapF setm; split <;> rfl
def Ints (vs : List Value) (F : List Int) : Prop := vs.length = F.length ∧ ∀ (i : Nat) (k : Int), F[i]? = some k → ∃ t, vs[i]? = some (.int k t)
theorem Ints.set {vs : List Value} {F : List Int} (h : Ints vs F) (i : Nat) (k : Int) (t : Tok) : Ints (vs.set i (.int k t)) (F.set i k) := by
  refine ⟨by rw [List.length_set, List.length_set]; exact h.1, fun j x e => ?_⟩
  rw [List.getElem?_set] at e ⊢
  split at e
  · rename_i q
    subst q
    split at e
    · cases e; rename_i hl; exact ⟨t, by rw [if_pos rfl, if_pos (by rw [h.1]; exact hl)]⟩
    · cases e
  · rename_i q; rw [if_neg q]; exact h.2 j x e
structure HS (CM CH : Addr) (y : Yd) (R : Hp) (M : Int → Int) (F : List Int) (st lim : Int) (H : Hp) : Prop where
  m : MS CM y.mm R M H
  hp : H y.hp = some (.inst CH y.hd)
  hd : ∃ t1 t2 fl vs, H y.hd = some (.ns (heapF y.mm.a st lim fl t1 t2) 4) ∧ H fl = some (.list vs) ∧ Ints vs F ∧ R fl = none
  rp : R y.hp = none
  rd : R y.hd = none
  cc : CM ≠ CH
section
variable {CM CH : Addr} {y : Yd} {R R' : Hp} {M : Int → Int} {F : List Int} {st lim : Int} {H H' : Hp}
theorem AOne {H : Hp} {a b : Addr} {x z : AO} (h : H a = some x) (h' : H b = some z) (n : x ≠ z) : a ≠ b := fun e => n (by subst e; rw [h] at h'; cases h'; rfl)
theorem HS.get (S : HS CM CH y R M F st lim H) {b : Addr} {ao : AO} (h : R b = some ao) : H b = some ao := S.m.get h
theorem HS.less (S : HS CM CH y R M F st lim H) (h : ∀ b ao, R' b = some ao → R b = some ao) : HS CM CH y R' M F st lim H := by
  have n : ∀ b, R b = none → R' b = none := fun b e => by
    cases q : R' b with
    | none => rfl
    | some ao => rw [h b ao q] at e; cases e
  obtain ⟨t1, t2, fl, vs, h1, h2, h3, h4⟩ := S.hd
  exact ⟨S.m.less h, S.hp, ⟨t1, t2, fl, vs, h1, h2, h3, n _ h4⟩, n _ S.rp, n _ S.rd, S.cc⟩
/-- the memory's view with the heap's own objects beside it -/
theorem HS.view (S : HS CM CH y R M F st lim H) {fl : Addr} {vs : List Value} (hf : H fl = some (.list vs)) : MS CM y.mm (fun b => if b = y.hp ∨ b = y.hd ∨ b = fl then H b else R b) M H := by
  refine ⟨S.m.a, S.m.d, S.m.w, fun b ao e => ?_⟩
  obtain ⟨t1, t2, fl', vs', h1, h2, h3, h4⟩ := S.hd
  obtain ⟨tm, hm⟩ := S.m.d
  obtain ⟨g, hg, _⟩ := S.m.w
  have q1 := S.hp
  split at e
  · rename_i hb
    refine ⟨e, ?_⟩
    rcases hb with rfl | rfl | rfl
    · exact ⟨AOne q1 S.m.a (by intro e; injection e with e1 e2; exact S.cc e1.symm), AOne q1 hm (by intro e; cases e), AOne q1 hg (by intro e; cases e)⟩
    · exact ⟨AOne h1 S.m.a (by intro e; cases e), AOne h1 hm (by intro e; injection e with _ e; cases e), AOne h1 hg (by intro e; cases e)⟩
    · exact ⟨AOne hf S.m.a (by intro e; cases e), AOne hf hm (by intro e; cases e), AOne hf hg (by intro e; cases e)⟩
  · exact S.m.r b ao e
theorem HS.of_view (S : HS CM CH y R M F st lim H) {fl : Addr} {vs : List Value} {t1 t2 : Tok} {M' : Int → Int} (h1 : H y.hd = some (.ns (heapF y.mm.a st lim fl t1 t2) 4)) (h2 : H fl = some (.list vs)) (h3 : Ints vs F) (h4 : R fl = none)
    (S' : MS CM y.mm (fun b => if b = y.hp ∨ b = y.hd ∨ b = fl then H b else R b) M' H') : HS CM CH y R M' F st lim H' ∧ H' y.hd = some (.ns (heapF y.mm.a st lim fl t1 t2) 4) ∧ H' fl = some (.list vs) := by
  have a1 : H' y.hp = some (.inst CH y.hd) := S'.get (by rw [if_pos (.inl rfl)]; exact S.hp)
  have a2 : H' y.hd = some (.ns (heapF y.mm.a st lim fl t1 t2) 4) := S'.get (by rw [if_pos (.inr (.inl rfl))]; exact h1)
  have a3 : H' fl = some (.list vs) := S'.get (by rw [if_pos (.inr (.inr rfl))]; exact h2)
  refine ⟨⟨S'.less fun b ao e => ?_, a1, ⟨t1, t2, fl, vs, a2, a3, h3, h4⟩, S.rp, S.rd, S.cc⟩, a2, a3⟩
  rw [if_neg]
  · exact e
  · rintro (rfl | rfl | rfl)
    · rw [S.rp] at e; cases e
    · rw [S.rd] at e; cases e
    · rw [h4] at e; cases e
/-- an object beside turns or is new -/
theorem HS.upd (S : HS CM CH y R M F st lim H) {b : Addr} {ao : AO} (h : H b = none ∨ ∃ ao₀, R b = some ao₀) : HS CM CH y (Mine.upd R b ao) M F st lim (Mine.upd H b ao) := by
  obtain ⟨t1, t2, fl, vs, h1, h2, h3, h4⟩ := S.hd
  have hb : b ≠ y.hp ∧ b ≠ y.hd ∧ b ≠ fl := by
    rcases h with h | ⟨ao₀, h⟩
    · refine ⟨fun e => ?_, fun e => ?_, fun e => ?_⟩ <;> subst e
      · rw [S.hp] at h; cases h
      · rw [h1] at h; cases h
      · rw [h2] at h; cases h
    · refine ⟨fun e => ?_, fun e => ?_, fun e => ?_⟩ <;> subst e
      · rw [S.rp] at h; cases h
      · rw [S.rd] at h; cases h
      · rw [h4] at h; cases h
  exact ⟨S.m.upd h, by rw [upd_ne (Ne.symm hb.1)]; exact S.hp, ⟨t1, t2, fl, vs, by rw [upd_ne (Ne.symm hb.2.1)]; exact h1, by rw [upd_ne (Ne.symm hb.2.2)]; exact h2, h3, by rw [upd_ne (Ne.symm hb.2.2)]; exact h4⟩,
    by rw [upd_ne (Ne.symm hb.1)]; exact S.rp, by rw [upd_ne (Ne.symm hb.2.1)]; exact S.rd, S.cc⟩
theorem HS.new (S : HS CM CH y R M F st lim H) {b : Addr} {ao : AO} (h : H b = none) : HS CM CH y (Mine.upd R b ao) M F st lim (Mine.upd H b ao) := S.upd (.inl h)
theorem HS.set (S : HS CM CH y R M F st lim H) {b : Addr} {ao ao₀ : AO} (h : R b = some ao₀) : HS CM CH y (Mine.upd R b ao) M F st lim (Mine.upd H b ao) := S.upd (.inr ⟨_, h⟩)
theorem HS.fresh (S : HS CM CH y R M F st lim H) {b : Addr} (h : H b = none) : R b = none := S.m.fresh h
theorem HS.add (S : HS CM CH y R M F st lim H) {b : Addr} {ao : AO} (h : H b = none) : HS CM CH y R M F st lim (Mine.upd H b ao) := (S.new (ao := ao) h).less fun c co e => by
  by_cases q : c = b
  · subst q; rw [S.get e] at h; cases h
  · rw [upd_ne q]; exact e
/-- an object goes: a list that a loop walks -/
theorem MS.del (S : MS CM y.mm R M H) {b : Addr} (h : ∃ ao, R b = some ao) : MS CM y.mm (Mine.del R b) M (Mine.del H b) := by
  obtain ⟨ao, h⟩ := h
  have hb := (S.r b ao h).2
  refine ⟨by rw [del_ne (Ne.symm hb.1)]; exact S.a, ?_, ?_, fun c co e => ?_⟩
  · obtain ⟨t, e⟩ := S.d; exact ⟨t, by rw [del_ne (Ne.symm hb.2.1)]; exact e⟩
  · obtain ⟨g, e, w⟩ := S.w; exact ⟨g, by rw [del_ne (Ne.symm hb.2.2)]; exact e, w⟩
  · obtain ⟨e1, e2⟩ := del_of e
    obtain ⟨z1, z2⟩ := S.r c co e1
    exact ⟨by rw [del_ne e2]; exact z1, z2⟩
theorem HS.del (S : HS CM CH y R M F st lim H) {b : Addr} {ao : AO} (h : R b = some ao) : HS CM CH y (Mine.del R b) M F st lim (Mine.del H b) := by
  obtain ⟨t1, t2, fl, vs, h1, h2, h3, h4⟩ := S.hd
  have hb : b ≠ y.hp ∧ b ≠ y.hd ∧ b ≠ fl := by
    refine ⟨fun e => ?_, fun e => ?_, fun e => ?_⟩ <;> subst e
    · rw [S.rp] at h; cases h
    · rw [S.rd] at h; cases h
    · rw [h4] at h; cases h
  exact ⟨S.m.del ⟨_, h⟩, by rw [del_ne (Ne.symm hb.1)]; exact S.hp, ⟨t1, t2, fl, vs, by rw [del_ne (Ne.symm hb.2.1)]; exact h1, by rw [del_ne (Ne.symm hb.2.2)]; exact h2, h3, by rw [del_ne (Ne.symm hb.2.2)]; exact h4⟩,
    by rw [del_ne (Ne.symm hb.1)]; exact S.rp, by rw [del_ne (Ne.symm hb.2.1)]; exact S.rd, S.cc⟩
/-- the free lists' heads turn -/
theorem HS.free (S : HS CM CH y R M F st lim H) {fl : Addr} {vs vs' : List Value} {F' : List Int} {t1 t2 : Tok} (h1 : H y.hd = some (.ns (heapF y.mm.a st lim fl t1 t2) 4)) (h2 : H fl = some (.list vs)) (hR : R fl = none) (h3 : Ints vs' F') :
    HS CM CH y R M F' st lim (Mine.upd H fl (.list vs')) := by
  obtain ⟨tm, hm⟩ := S.m.d
  obtain ⟨g, hg, hw⟩ := S.m.w
  refine ⟨⟨?_, ⟨tm, ?_⟩, ⟨g, ?_, hw⟩, fun b ao e => ?_⟩, ?_, ⟨t1, t2, fl, vs', ?_, upd_self _ _ _, h3, hR⟩, S.rp, S.rd, S.cc⟩
  · rw [upd_ne (AOne S.m.a h2 (by intro e; cases e))]; exact S.m.a
  · rw [upd_ne (AOne hm h2 (by intro e; cases e))]; exact hm
  · rw [upd_ne (AOne hg h2 (by intro e; cases e))]; exact hg
  · obtain ⟨z1, z2⟩ := S.m.r b ao e
    exact ⟨by rw [upd_ne (fun q => by subst q; rw [hR] at e; cases e)]; exact z1, z2⟩
  · rw [upd_ne (AOne S.hp h2 (by intro e; cases e))]; exact S.hp
  · rw [upd_ne (AOne h1 h2 (by intro e; cases e))]; exact h1
/-- a new list of the free lists' heads -/
theorem HS.refree (S : HS CM CH y R M F st lim H) {fl fl' : Addr} {vs' : List Value} {F' : List Int} {t1 t2 : Tok} (h1 : H y.hd = some (.ns (heapF y.mm.a st lim fl t1 t2) 4)) (h2 : H fl' = some (.list vs')) (hR : R fl' = none) (h3 : Ints vs' F') :
    HS CM CH y R M F' st lim (Mine.upd H y.hd (.ns (setm (heapF y.mm.a st lim fl t1 t2) "free" (.ref fl')) 4)) := by
  obtain ⟨tm, hm⟩ := S.m.d
  obtain ⟨g, hg, hw⟩ := S.m.w
  rw [heapF_free]
  refine ⟨⟨?_, ⟨tm, ?_⟩, ⟨g, ?_, hw⟩, fun b ao e => ?_⟩, ?_, ⟨t1, t2, fl', vs', upd_self _ _ _, ?_, h3, hR⟩, S.rp, S.rd, S.cc⟩
  · rw [upd_ne (AOne S.m.a h1 (by intro e; cases e))]; exact S.m.a
  · rw [upd_ne (AOne hm h1 (by intro e; injection e with _ e; cases e))]; exact hm
  · rw [upd_ne (AOne hg h1 (by intro e; cases e))]; exact hg
  · obtain ⟨z1, z2⟩ := S.m.r b ao e
    exact ⟨by rw [upd_ne (fun q => by subst q; rw [S.rd] at e; cases e)]; exact z1, z2⟩
  · rw [upd_ne (AOne S.hp h1 (by intro e; cases e))]; exact S.hp
  · rw [upd_ne (AOne h2 h1 (by intro e; cases e))]; exact h2
end
theorem lnum_bd (s : Int) : 0 ≤ lnum s ∧ lnum s < 4 := by unfold lnum; split <;> (try split) <;> (try split) <;> omega
def bsz (r : Int) : Int := (r + 23) / 16 * 16
def szAt (M : Int → Int) (x : Int) : Int := if M (x / 4) % 2 = 1 then M (x / 4) - 1 else bsz (M (M (x / 4) / 4))
end Mine
namespace Mine
/-! free lists, in plain Lean -/
def Chain (M : Int → Int) : Int → List Int → Prop
  | h, [] => h = 0
  | h, x :: r => h = x ∧ Chain M (M ((x + 4) / 4)) r
def OkA (x : Int) : Prop := 1024 ≤ x ∧ x + 16 ≤ 8192 ∧ x % 16 = 0
theorem OkA.ne {x z : Int} (a : OkA x) (b : OkA z) (h : x ≠ z) : (x + 4) / 4 ≠ (z + 4) / 4 := by obtain ⟨_, _, _⟩ := a; obtain ⟨_, _, _⟩ := b; omega
theorem OkA.ne' {x z : Int} (a : OkA x) (b : OkA z) : (x + 4) / 4 ≠ z / 4 := by obtain ⟨_, _, _⟩ := a; obtain ⟨_, _, _⟩ := b; omega
theorem OkA.ne0 {x : Int} (a : OkA x) : x ≠ 0 := by obtain ⟨_, _, _⟩ := a; omega
theorem Chain.congr {M M' : Int → Int} : ∀ {h : Int} {L : List Int}, (∀ x ∈ L, M' ((x + 4) / 4) = M ((x + 4) / 4)) → Chain M h L → Chain M' h L
  | _, [], _, c => c
  | _, x :: r, h, c => ⟨c.1, by rw [h x (.head _)]; exact Chain.congr (fun z hz => h z (.tail _ hz)) c.2⟩
theorem Chain.cut {M M' : Int → Int} {p x : Int} {rest : List Int} : ∀ {pre : List Int} {h : Int}, Chain M h (pre ++ p :: x :: rest) → M' ((p + 4) / 4) = M ((x + 4) / 4) → (∀ z ∈ pre, M' ((z + 4) / 4) = M ((z + 4) / 4)) → (∀ z ∈ rest, M' ((z + 4) / 4) = M ((z + 4) / 4)) →
    Chain M' h (pre ++ p :: rest)
  | [], _, c, hp, _, hr => ⟨c.1, by rw [hp]; exact Chain.congr hr c.2.2⟩
  | a :: pre, _, c, hp, hq, hr => ⟨c.1, by rw [hq a (.head _)]; exact Chain.cut (pre := pre) c.2 hp (fun z hz => hq z (.tail _ hz)) hr⟩
theorem Chain.head {M : Int → Int} {h : Int} {L : List Int} (c : Chain M h L) : h = 0 ∧ L = [] ∨ ∃ r, L = h :: r ∧ Chain M (M ((h + 4) / 4)) r := by
  cases L with
  | nil => exact .inl ⟨c, rfl⟩
  | cons x r => obtain ⟨e, c⟩ := c; subst e; exact .inr ⟨r, rfl, c⟩
structure FL (M : Int → Int) (F : List Int) (Ls : Nat → List Int) : Prop where
  len : F.length = 4
  ch : ∀ i, i < 4 → Chain M (F.getD i 0) (Ls i)
  ok : ∀ i, i < 4 → ∀ x ∈ Ls i, OkA x ∧ M (x / 4) % 2 = 1
  nd : ∀ i, i < 4 → (Ls i).Nodup
  dj : ∀ i j x, i < 4 → j < 4 → x ∈ Ls i → x ∈ Ls j → i = j
def lset (Ls : Nat → List Int) (i : Nat) (L : List Int) : Nat → List Int := fun j => if j = i then L else Ls j
theorem lset_self (Ls : Nat → List Int) (i : Nat) (L : List Int) : lset Ls i L i = L := if_pos rfl
theorem lset_ne {Ls : Nat → List Int} {i j : Nat} {L : List Int} (h : j ≠ i) : lset Ls i L j = Ls j := if_neg h
theorem getD_set_self {F : List Int} {i : Nat} {x : Int} (h : i < F.length) : (F.set i x).getD i 0 = x := by simp [List.getD_eq_getElem?_getD, h]
theorem getD_set_ne {F : List Int} {i j : Nat} {x : Int} (h : j ≠ i) : (F.set i x).getD j 0 = F.getD j 0 := by
  simp only [List.getD_eq_getElem?_getD]; rw [List.getElem?_set_ne (Ne.symm h)]
theorem erase_mid {x : Int} {pre rest : List Int} (nd : (pre ++ x :: rest).Nodup) : (pre ++ x :: rest).erase x = pre ++ rest := by
  have h : x ∉ pre := by
    rw [List.nodup_append] at nd
    intro hx; exact nd.2.2 x hx x (.head _) rfl
  rw [List.erase_append_right _ h, List.erase_cons_head]
/-- what take_free leaves when it has found -/
structure Took (M : Int → Int) (F : List Int) (Ls : Nat → List Int) (i : Nat) (x : Int) (M' : Int → Int) (F' : List Int) : Prop where
  fl : FL M' F' (lset Ls i ((Ls i).erase x))
  same : ∀ k, (∀ p ∈ Ls i, p ≠ x → k ≠ (p + 4) / 4) → M' k = M k
theorem FL.less {M M' : Int → Int} {F F' : List Int} {Ls Ls' : Nat → List Int} (f : FL M F Ls) (hl : F'.length = 4) (hc : ∀ i, i < 4 → Chain M' (F'.getD i 0) (Ls' i)) (hs : ∀ i, i < 4 → (Ls' i).Sublist (Ls i)) (ho : ∀ i, i < 4 → ∀ x ∈ Ls' i, M' (x / 4) = M (x / 4)) : FL M' F' Ls' :=
  ⟨hl, hc, fun i hi x hx => by rw [ho i hi x hx]; exact f.ok i hi x ((hs i hi).subset hx), fun i hi => (hs i hi).nodup (f.nd i hi), fun i j x hi hj h1 h2 => f.dj i j x hi hj ((hs i hi).subset h1) ((hs j hj).subset h2)⟩
theorem FL.took_head {M : Int → Int} {F : List Int} {Ls : Nat → List Int} (f : FL M F Ls) {i : Nat} (hi : i < 4) {x : Int} {rest : List Int} (e : Ls i = x :: rest) : Took M F Ls i x M (F.set i (M ((x + 4) / 4))) := by
  have er : (Ls i).erase x = rest := by rw [e, List.erase_cons_head]
  refine ⟨f.less (by rw [List.length_set]; exact f.len) (fun j hj => ?_) (fun j hj => ?_) fun _ _ _ _ => rfl, fun _ _ => rfl⟩
  · by_cases q : j = i
    · subst q; rw [lset_self, getD_set_self (by rw [f.len]; exact hj), er]
      have := f.ch j hj; rw [e] at this; exact this.2
    · rw [lset_ne q, getD_set_ne q]; exact f.ch j hj
  · by_cases q : j = i
    · subst q; rw [lset_self]; exact List.erase_sublist
    · rw [lset_ne q]; exact List.Sublist.refl _
theorem FL.took_mid {M : Int → Int} {F : List Int} {Ls : Nat → List Int} (f : FL M F Ls) {i : Nat} (hi : i < 4) {p x v : Int} {pre rest : List Int} (e : Ls i = pre ++ p :: x :: rest) (hv : v = M ((x + 4) / 4)) :
    Took M F Ls i x (wr M (p + 4) v) F := by
  have hnd := f.nd i hi
  have okx : ∀ z ∈ Ls i, OkA z := fun z hz => (f.ok i hi z hz).1
  have hp : OkA p := okx p (by rw [e]; simp)
  have e' : Ls i = (pre ++ [p]) ++ x :: rest := by rw [e]; simp
  have er : (Ls i).erase x = pre ++ p :: rest := by rw [e', erase_mid (by rw [← e']; exact hnd)]; simp
  have hv' : 0 ≤ v ∧ v < 4294967296 := by
    have c := f.ch i hi
    rw [e] at c
    have : ∀ {pre : List Int} {h : Int}, Chain M h (pre ++ p :: x :: rest) → Chain M (M ((x + 4) / 4)) rest := by
      intro pre
      induction pre with
      | nil => intro h c; exact c.2.2
      | cons a r ih => intro h c; exact ih c.2
    have c' := this c
    rw [← hv] at c'
    rcases c'.head with ⟨h, _⟩ | ⟨r, h, _⟩
    · omega
    · have := okx v (by rw [e, h]; simp)
      obtain ⟨_, _, _⟩ := this
      omega
  have hw : ∀ k, k ≠ (p + 4) / 4 → wr M (p + 4) v k = M k := fun k h => if_neg h
  have hwp : wr M (p + 4) v ((p + 4) / 4) = v := by unfold wr; rw [if_pos rfl]; omega
  have hd : ∀ z ∈ Ls i, z ≠ p → (z + 4) / 4 ≠ (p + 4) / 4 := fun z hz h => (okx z hz).ne hp h
  have nd2 : (pre ++ p :: x :: rest).Nodup := by rw [← e]; exact hnd
  have np : ∀ z, z ∈ pre ∨ z ∈ rest → z ≠ p := by
    intro z hz q
    subst q
    rw [List.nodup_append] at nd2
    rcases hz with hz | hz
    · exact nd2.2.2 z hz z (.head _) rfl
    · have := nd2.2.1; rw [List.nodup_cons] at this; exact this.1 (.tail _ hz)
  refine ⟨f.less f.len (fun j hj => ?_) (fun j hj => ?_) (fun j hj z hz => ?_), fun k hk => hw k (hk p (by rw [e]; simp) (fun q => ?_))⟩
  · by_cases q : j = i
    · subst q; rw [lset_self, er]
      have c := f.ch j hj; rw [e] at c
      exact c.cut (by rw [hwp, hv]) (fun z hz => hw _ (hd z (by rw [e]; simp [hz]) (np z (.inl hz)))) (fun z hz => hw _ (hd z (by rw [e]; simp [hz]) (np z (.inr hz))))
    · rw [lset_ne q]
      refine (f.ch j hj).congr fun z hz => hw _ ((f.ok j hj z hz).1.ne hp fun eq => q ?_)
      subst eq; exact f.dj j i z hj hi hz (by rw [e]; simp)
  · by_cases q : j = i
    · subst q; rw [lset_self]; exact List.erase_sublist
    · rw [lset_ne q]; exact List.Sublist.refl _
  · have hz' : z ∈ Ls j := by
      by_cases q : j = i
      · subst q; rw [lset_self] at hz; exact List.mem_of_mem_erase hz
      · rw [lset_ne q] at hz; exact hz
    exact hw _ (hp.ne' (f.ok j hj z hz').1).symm
  · subst q
    rw [List.nodup_append] at nd2
    have := nd2.2.1; rw [List.nodup_cons] at this; exact this.1 (.head _)
/-- a block is put into its list -/
theorem FL.put {M : Int → Int} {F : List Int} {Ls : Nat → List Int} (f : FL M F Ls) {i : Nat} (hi : i < 4) {x s : Int} (hx : OkA x) (hn : ∀ j, j < 4 → x ∉ Ls j) (hs : s % 2 = 0) (h0 : 0 ≤ s) (h1 : s < 8192) :
    FL (wr (wr M x (s + 1)) (x + 4) (F.getD i 0)) (F.set i x) (lset Ls i (x :: Ls i)) ∧ (∀ k, k ≠ x / 4 → k ≠ (x + 4) / 4 → wr (wr M x (s + 1)) (x + 4) (F.getD i 0) k = M k) ∧ wr (wr M x (s + 1)) (x + 4) (F.getD i 0) (x / 4) = s + 1 := by
  have hk : ∀ k, k ≠ x / 4 → k ≠ (x + 4) / 4 → wr (wr M x (s + 1)) (x + 4) (F.getD i 0) k = M k := fun k h1 h2 => by unfold wr; rw [if_neg h2, if_neg h1]
  have hw1 : wr (wr M x (s + 1)) (x + 4) (F.getD i 0) (x / 4) = s + 1 := by
    have := hx.ne' hx
    unfold wr; rw [if_neg (Ne.symm this), if_pos rfl]; omega
  have hd : 0 ≤ F.getD i 0 ∧ F.getD i 0 < 4294967296 := by
    have c := f.ch i hi
    rcases c.head with ⟨h, _⟩ | ⟨r, h, _⟩
    · omega
    · have := (f.ok i hi (F.getD i 0) (by rw [h]; simp)).1
      obtain ⟨_, _, _⟩ := this
      omega
  have hw2 : wr (wr M x (s + 1)) (x + 4) (F.getD i 0) ((x + 4) / 4) = F.getD i 0 := by unfold wr; rw [if_pos rfl]; omega
  have old : ∀ j, j < 4 → ∀ z ∈ Ls j, OkA z ∧ z ≠ x := fun j hj z hz => ⟨(f.ok j hj z hz).1, fun e => hn j hj (e ▸ hz)⟩
  have k1 : ∀ j, j < 4 → ∀ z ∈ Ls j, wr (wr M x (s + 1)) (x + 4) (F.getD i 0) ((z + 4) / 4) = M ((z + 4) / 4) := fun j hj z hz => hk _ ((old j hj z hz).1.ne' hx) ((old j hj z hz).1.ne hx (old j hj z hz).2)
  have k2 : ∀ j, j < 4 → ∀ z ∈ Ls j, wr (wr M x (s + 1)) (x + 4) (F.getD i 0) (z / 4) = M (z / 4) := fun j hj z hz => hk _ (fun e => by
    obtain ⟨⟨_, _, _⟩, h⟩ := old j hj z hz; obtain ⟨_, _, _⟩ := hx; omega) (hx.ne' (old j hj z hz).1).symm
  have ch : ∀ j, j < 4 → Chain (wr (wr M x (s + 1)) (x + 4) (F.getD i 0)) (F.getD j 0) (Ls j) := fun j hj => (f.ch j hj).congr (k1 j hj)
  refine ⟨⟨by rw [List.length_set]; exact f.len, fun j hj => ?_, fun j hj z hz => ?_, fun j hj => ?_, fun j l z hj hl h1 h2 => ?_⟩, hk, hw1⟩
  · by_cases q : j = i
    · subst q; rw [lset_self, getD_set_self (by rw [f.len]; exact hj)]
      exact ⟨rfl, by rw [hw2]; exact ch j hj⟩
    · rw [lset_ne q, getD_set_ne q]; exact ch j hj
  · have : z = x ∨ z ∈ Ls j := by
      by_cases q : j = i
      · subst q; rw [lset_self] at hz; exact List.mem_cons.mp hz
      · rw [lset_ne q] at hz; exact .inr hz
    rcases this with rfl | hz
    · exact ⟨hx, by rw [hw1]; omega⟩
    · rw [k2 j hj z hz]; exact f.ok j hj z hz
  · by_cases q : j = i
    · subst q; rw [lset_self, List.nodup_cons]; exact ⟨hn j hj, f.nd j hj⟩
    · rw [lset_ne q]; exact f.nd j hj
  · have c1 : ∀ j, j < 4 → z ∈ lset Ls i (x :: Ls i) j → (z = x ∧ j = i) ∨ (z ∈ Ls j ∧ z ≠ x) := fun j hj h => by
      by_cases q : j = i
      · subst q; rw [lset_self] at h
        rcases List.mem_cons.mp h with rfl | h
        · exact .inl ⟨rfl, rfl⟩
        · exact .inr ⟨h, (old j hj z h).2⟩
      · rw [lset_ne q] at h; exact .inr ⟨h, (old j hj z h).2⟩
    rcases c1 j hj h1 with ⟨a, b⟩ | ⟨a, b⟩ <;> rcases c1 l hl h2 with ⟨c, d⟩ | ⟨c, d⟩
    · rw [b, d]
    · exact absurd a d
    · exact absurd c b
    · exact f.dj j l z hj hl a c
end Mine
namespace Mine
open PySem.Calls PySem.Spec
theorem rs_up {a b c : Int} (hc : 0 < c) (h : a ≤ b) : Builtin.Range.rangeSize a b c = (b - a + c - 1) / c := by
  unfold Builtin.Range.rangeSize
  rw [if_pos hc]
  split
  · have : b - a + c - 1 = (b - a - 1) + c * 1 := by omega
    rw [this, Int.add_mul_ediv_left _ _ (by omega)]
  · have : b - a + c - 1 = c - 1 := by omega
    rw [this, Int.ediv_eq_zero_of_lt (by omega) (by omega)]
theorem rs_empty {a b c : Int} (hc : 0 < c) (h : b ≤ a) : Builtin.Range.rangeSize a b c = 0 := by
  unfold Builtin.Range.rangeSize; rw [if_pos hc, if_neg (by omega)]
theorem rs_one {a b : Int} (h : a ≤ b) : Builtin.Range.rangeSize a b 1 = b - a := by rw [rs_up (by decide) h]; omega
theorem rs_down {a b : Int} (h : b ≤ a) : Builtin.Range.rangeSize a b (-1) = a - b := by
  unfold Builtin.Range.rangeSize; rw [if_neg (by decide)]; split
  · rw [show (-(-1) : Int) = 1 from rfl, Int.ediv_one]; omega
  · omega
theorem rs_le {a b c : Int} (hc : 0 < c) : 0 ≤ Builtin.Range.rangeSize a b c ∧ (Builtin.Range.rangeSize a b c ≤ b - a ∨ Builtin.Range.rangeSize a b c = 0) := by
  refine ⟨rangeN _ _ _, ?_⟩
  by_cases h : a < b
  · left
    unfold Builtin.Range.rangeSize
    rw [if_pos hc, if_pos h]
    have : (b - a - 1) / c ≤ b - a - 1 := Int.ediv_le_self _ (by omega)
    omega
  · right; exact rs_empty hc (by omega)
theorem r_small {a b c : Int} (ha : -1000000 ≤ a) (ha' : a ≤ 1000000) (hb : -1000000 ≤ b) (hb' : b ≤ 1000000) (hc : c = -1 ∨ 0 < c) (hc' : c ≤ 1000000) : Builtin.Range.small a b c = true := by
  have hn : 0 ≤ Builtin.Range.rangeSize a b c ∧ Builtin.Range.rangeSize a b c ≤ 2000000 := by
    rcases hc with rfl | hc
    · unfold Builtin.Range.rangeSize; rw [if_neg (by decide)]; split
      · rw [show (-(-1) : Int) = 1 from rfl, Int.ediv_one]; omega
      · omega
    · have := rs_le (a := a) (b := b) hc; omega
  have e63 : (2 : Int) ^ 63 = 9223372036854775808 := by decide
  unfold Builtin.Range.small
  simp only [Builtin.Range.rangeFitsLong, Bool.and_eq_true, decide_eq_true_eq]
  generalize Builtin.Range.rangeSize a b c = n at hn
  rcases hc with rfl | hc
  · simp only [e63]; simp; omega
  · simp only [e63]; simp [show c ≠ 0 by omega, hc]; omega
end Mine
namespace Mine
/-! blocks, in plain Lean -/
structure Bk where
  a : Int
  n : Int
  d : Option Int
def Tiles : List Bk → Int → Int → Prop
  | [], a, l => a = l
  | b :: r, a, l => b.a = a ∧ Tiles r (a + b.n) l
theorem tiles_app {A B : List Bk} : ∀ {a l : Int}, Tiles (A ++ B) a l ↔ ∃ m, Tiles A a m ∧ Tiles B m l := by
  induction A with
  | nil => intro a l; exact ⟨fun h => ⟨a, rfl, h⟩, fun ⟨m, h1, h2⟩ => by cases h1; exact h2⟩
  | cons b r ih =>
    intro a l
    show b.a = a ∧ Tiles (r ++ B) _ l ↔ _
    rw [ih]
    exact ⟨fun ⟨h, m, h1, h2⟩ => ⟨m, ⟨h, h1⟩, h2⟩, fun ⟨m, ⟨h, h1⟩, h2⟩ => ⟨h, m, h1, h2⟩⟩
theorem tiles_bd {B : List Bk} : ∀ {a l : Int}, Tiles B a l → (∀ b ∈ B, 0 < b.n) → a ≤ l ∧ ∀ b ∈ B, a ≤ b.a ∧ b.a + b.n ≤ l := by
  induction B with
  | nil => intro a l h _; cases h; exact ⟨Int.le_refl _, fun b hb => nomatch hb⟩
  | cons c r ih =>
    rintro a l ⟨h1, h2⟩ hp
    obtain ⟨i1, i2⟩ := ih h2 fun b hb => hp b (.tail _ hb)
    have := hp c (.head _)
    refine ⟨by omega, fun b hb => ?_⟩
    rcases List.mem_cons.mp hb with rfl | hb
    · omega
    · have := i2 b hb; omega
theorem tiles_mid {pre suf : List Bk} {b : Bk} {a l : Int} (t : Tiles (pre ++ b :: suf) a l) (hp : ∀ c ∈ pre ++ b :: suf, 0 < c.n) :
    Tiles pre a b.a ∧ Tiles suf (b.a + b.n) l ∧ (∀ c ∈ pre, a ≤ c.a ∧ c.a + c.n ≤ b.a) ∧ (∀ c ∈ suf, b.a + b.n ≤ c.a ∧ c.a + c.n ≤ l) ∧ a ≤ b.a ∧ b.a + b.n ≤ l := by
  obtain ⟨m, t1, rfl, t2⟩ := tiles_app.mp t
  have b1 := tiles_bd t1 fun c hc => hp c (List.mem_append_left _ hc)
  have b2 := tiles_bd t2 fun c hc => hp c (List.mem_append_right _ (.tail _ hc))
  exact ⟨t1, t2, b1.2, b2.2, b1.1, b2.1⟩
/-- two blocks are one or apart -/
theorem tiles_two {B : List Bk} {a l : Int} (t : Tiles B a l) (hp : ∀ c ∈ B, 0 < c.n) {b c : Bk} (hb : b ∈ B) (hc : c ∈ B) : b = c ∨ b.a + b.n ≤ c.a ∨ c.a + c.n ≤ b.a := by
  obtain ⟨pre, suf, rfl⟩ := List.append_of_mem hb
  obtain ⟨_, _, h1, h2, _, _⟩ := tiles_mid t hp
  rcases List.mem_append.mp hc with h | h
  · exact .inr (.inr (h1 c h).2)
  · rcases List.mem_cons.mp h with rfl | h
    · exact .inl rfl
    · exact .inr (.inl (h2 c h).1)
theorem bsz_ok {r : Int} (h : 0 ≤ r) : 16 ≤ bsz r ∧ bsz r % 16 = 0 ∧ r + 8 ≤ bsz r ∧ bsz r ≤ r + 23 := by unfold bsz; omega
structure DescOk (M : Int → Int) (d : Int) : Prop where
  l : 0 ≤ d
  u : d < 1024
  e : d % 2 = 0
  w : 0 ≤ M (d / 4)
  v : M (d / 4) < 8000
def Head (M : Int → Int) (b : Bk) : Prop := match b.d with
  | none => M (b.a / 4) = b.n + 1
  | some d => M (b.a / 4) = d ∧ DescOk M d ∧ b.n = bsz (M (d / 4))
structure OkB (M : Int → Int) (b : Bk) : Prop where
  a : OkA b.a
  n : 16 ≤ b.n
  m : b.n % 16 = 0
  l : b.a + b.n ≤ 8192
  h : Head M b
theorem OkB.pos {M : Int → Int} {b : Bk} (o : OkB M b) : 0 < b.n := by have := o.n; omega
theorem OkB.size {M : Int → Int} {b : Bk} (o : OkB M b) : szAt M b.a = b.n ∧ (M (b.a / 4) % 2 = 1 ↔ b.d = none) ∧ (M (b.a / 4) % 2 = 1 ∨ (0 ≤ M (b.a / 4) ∧ M (b.a / 4) < 8192)) := by
  have h := o.h
  have m := o.m
  unfold Head at h
  cases hd : b.d with
  | none =>
    rw [hd] at h
    have h : M (b.a / 4) = b.n + 1 := h
    have odd : M (b.a / 4) % 2 = 1 := by rw [h]; omega
    exact ⟨by unfold szAt; rw [if_pos odd, h]; omega, ⟨fun _ => rfl, fun _ => odd⟩, .inl odd⟩
  | some d =>
    rw [hd] at h
    obtain ⟨h1, h2, h3⟩ := h
    have odd : ¬ M (b.a / 4) % 2 = 1 := by have := h2.e; rw [h1]; omega
    exact ⟨by unfold szAt; rw [if_neg odd, h1, h3], ⟨fun h => absurd h odd, fun h => by cases h⟩, .inr ⟨by rw [h1]; exact h2.l, by have := h2.u; rw [h1]; omega⟩⟩
structure Inv (M : Int → Int) (F : List Int) (Ls : Nat → List Int) (B : List Bk) (st lim : Int) : Prop where
  s0 : 1024 ≤ st
  l1 : lim ≤ 8192
  ti : Tiles B st lim
  ok : ∀ b ∈ B, OkB M b
  fl : FL M F Ls
  ls : ∀ i, i < 4 → ∀ x, x ∈ Ls i ↔ ∃ b ∈ B, b.a = x ∧ b.d = none ∧ (lnum b.n).toNat = i
theorem Inv.pos {M F Ls B st lim} (I : Inv M F Ls B st lim) : ∀ b ∈ B, 0 < b.n := fun b hb => (I.ok b hb).pos
theorem lnum_mono {a b : Int} (h : a ≤ b) : (lnum a).toNat ≤ (lnum b).toNat := by
  unfold lnum
  repeat' split
  all_goals omega
/-- words set to zero -/
def zr (M : Int → Int) (a : Int) (i : Nat) : Int → Int := fun k => if a / 4 ≤ k ∧ k < a / 4 + i then 0 else M k
theorem zr_zero (M : Int → Int) (a : Int) : zr M a 0 = M := by funext k; unfold zr; rw [if_neg]; omega
theorem zr_succ (M : Int → Int) (a : Int) (i : Nat) (ha : a % 4 = 0) : wr (zr M a i) (a + 4 * i) 0 = zr M a (i + 1) := by
  funext k
  unfold wr zr
  by_cases h : k = (a + 4 * i) / 4
  · rw [if_pos h, if_pos (by omega)]; rfl
  · rw [if_neg h]
    by_cases h' : a / 4 ≤ k ∧ k < a / 4 + i
    · rw [if_pos h', if_pos (by omega)]
    · rw [if_neg h', if_neg (by omega)]
theorem took_mem {M : Int → Int} {F : List Int} {Ls : Nat → List Int} (f : FL M F Ls) {i j : Nat} {x w : Int} (hi : i < 4) (hj : j < 4) (hx : x ∈ Ls i) : w ∈ lset Ls i ((Ls i).erase x) j ↔ w ∈ Ls j ∧ w ≠ x := by
  by_cases q : j = i
  · subst q; rw [lset_self, (f.nd j hj).mem_erase_iff]; exact And.comm
  · rw [lset_ne q]
    exact ⟨fun h => ⟨h, fun e => q (f.dj j i w hj hi h (e ▸ hx))⟩, fun h => h.1⟩
/-- what alloc leaves -/
structure Made (M : Int → Int) (B : List Bk) (pre : List Bk) (b : Bk) (suf : List Bk) (z d : Int) (M' : Int → Int) (F' : List Int) (Ls' : Nat → List Int) (st lim : Int) : Prop where
  inv : Inv M' F' Ls' (pre ++ ⟨b.a, z, some d⟩ :: ((if b.n - z > 0 then [⟨b.a + z, b.n - z, none⟩] else []) ++ suf)) st lim
  low : ∀ k, k < 256 → M' k = M k
  used : ∀ c ∈ B, c.d ≠ none → ∀ k, c.a / 4 ≤ k → k < (c.a + c.n) / 4 → M' k = M k
  zero : ∀ k, b.a / 4 < k → k < (b.a + z) / 4 → M' k = 0
theorem made_core {M M₁ M₂ : Int → Int} {F F₂ : List Int} {Ls Ls₂ : Nat → List Int} {pre suf R : List Bk} {b : Bk} {st lim z d : Int} (I : Inv M F Ls (pre ++ b :: suf) st lim) (hb : b.d = none) (hz : z = bsz (M (d / 4))) (D : DescOk M d) (hle : z ≤ b.n)
    (hR : R = if b.n - z > 0 then [⟨b.a + z, b.n - z, none⟩] else [])
    (s1 : ∀ k, (∀ c ∈ pre ++ b :: suf, c.d = none → c.a ≠ b.a → k ≠ (c.a + 4) / 4) → M₁ k = M k)
    (s2 : ∀ k, (k < (b.a + z) / 4 ∨ (b.a + b.n) / 4 ≤ k) → M₂ k = M₁ k) (s3 : b.n - z > 0 → M₂ ((b.a + z) / 4) = b.n - z + 1)
    (f2 : FL M₂ F₂ Ls₂) (hm : ∀ i, i < 4 → ∀ x, x ∈ Ls₂ i ↔ ∃ c ∈ pre ++ R ++ suf, c.a = x ∧ c.d = none ∧ (lnum c.n).toNat = i) :
    Made M (pre ++ b :: suf) pre b suf z d (zr (wr M₂ b.a d) (b.a + 4) (z / 4 - 1).toNat) F₂ Ls₂ st lim := by
  have ob := I.ok b (by simp)
  obtain ⟨oa1, oa2, oa3⟩ := ob.a
  have obn := ob.n
  have obm := ob.m
  have obl := ob.l
  obtain ⟨t1, t2, hp, hs, _, hlim⟩ := tiles_mid I.ti I.pos
  obtain ⟨z1, z2, z3, z4⟩ := bsz_ok D.w
  rw [← hz] at z1 z2 z3 z4
  have hl := I.l1
  have hs0 := I.s0
  have D1 := D.l
  have D2 := D.u
  have hk : ∀ k, (k < b.a / 4 ∨ (b.a + z) / 4 ≤ k) → zr (wr M₂ b.a d) (b.a + 4) (z / 4 - 1).toNat k = M₂ k := fun k h => by
    unfold zr wr; rw [if_neg (by omega), if_neg (by omega)]
  have hh : zr (wr M₂ b.a d) (b.a + 4) (z / 4 - 1).toNat (b.a / 4) = d := by
    unfold zr wr; rw [if_neg (by omega), if_pos rfl]; omega
  have hzr : ∀ k, b.a / 4 < k → k < (b.a + z) / 4 → zr (wr M₂ b.a d) (b.a + 4) (z / 4 - 1).toNat k = 0 := fun k h1 h2 => by
    unfold zr; rw [if_pos (by omega)]
  have okc : ∀ c, c ∈ pre ∨ c ∈ suf → c ∈ pre ++ b :: suf := fun c h => by
    rcases h with h | h
    · exact List.mem_append_left _ h
    · exact List.mem_append_right _ (.tail _ h)
  have apart : ∀ c, c ∈ pre ∨ c ∈ suf → st ≤ c.a ∧ (c.a + c.n ≤ b.a ∨ b.a + b.n ≤ c.a) := fun c h => by
    rcases h with h | h
    · have := hp c h; omega
    · have := hs c h; omega
  have seg : ∀ k, k < 256 → zr (wr M₂ b.a d) (b.a + 4) (z / 4 - 1).toNat k = M k := fun k h => by
    rw [hk k (by omega), s2 k (by omega), s1]
    intro c hc _ _
    obtain ⟨⟨c1, c2, c3⟩, _⟩ := I.ok c hc
    omega
  have cell : ∀ c, c ∈ pre ∨ c ∈ suf → ∀ k, c.a / 4 ≤ k → k < (c.a + c.n) / 4 → (c.d ≠ none ∨ k = c.a / 4) → zr (wr M₂ b.a d) (b.a + 4) (z / 4 - 1).toNat k = M k := fun c h k k1 k2 hd => by
    have ap := apart c h
    have oc := I.ok c (okc c h)
    obtain ⟨c1, c2, c3⟩ := oc.a
    have c4 := oc.n
    have c5 := oc.m
    rw [hk k (by omega), s2 k (by omega), s1]
    intro e he hed hea
    have oe := I.ok e he
    obtain ⟨e1, e2, e3⟩ := oe.a
    have e4 := oe.n
    have e5 := oe.m
    rcases tiles_two I.ti I.pos he (okc c h) with q | q | q
    · subst q
      rcases hd with hd | hd
      · exact absurd hed hd
      · omega
    · omega
    · omega
  have okM : ∀ d', DescOk M d' → DescOk (zr (wr M₂ b.a d) (b.a + 4) (z / 4 - 1).toNat) d' := fun d' h => by
    have e := seg (d' / 4) (by have := h.u; omega)
    exact ⟨h.l, h.u, h.e, by rw [e]; exact h.w, by rw [e]; exact h.v⟩
  have okO : ∀ c, c ∈ pre ∨ c ∈ suf → OkB (zr (wr M₂ b.a d) (b.a + 4) (z / 4 - 1).toNat) c := fun c h => by
    have oc := I.ok c (okc c h)
    obtain ⟨c1, c2, c3⟩ := oc.a
    have c4 := oc.n
    have c5 := oc.m
    have e := cell c h (c.a / 4) (by omega) (by omega) (.inr rfl)
    refine ⟨oc.a, oc.n, oc.m, oc.l, ?_⟩
    have hh := oc.h
    unfold Head at hh ⊢
    cases hd : c.d with
    | none => rw [hd] at hh; show _ = _; rw [e]; exact hh
    | some d' =>
      rw [hd] at hh
      obtain ⟨h1, h2, h3⟩ := hh
      exact ⟨by rw [e]; exact h1, okM d' h2, by rw [seg (d' / 4) (by have := h2.u; omega)]; exact h3⟩
  have memR : ∀ c ∈ R, c = ⟨b.a + z, b.n - z, none⟩ ∧ b.n - z > 0 := fun c h => by
    rw [hR] at h
    split at h
    · exact ⟨List.mem_singleton.mp h, by assumption⟩
    · cases h
  have okR : ∀ c ∈ R, OkB (zr (wr M₂ b.a d) (b.a + 4) (z / 4 - 1).toNat) c := fun c h => by
    obtain ⟨rfl, hpos⟩ := memR c h
    refine ⟨⟨?_, ?_, ?_⟩, ?_, ?_, ?_, ?_⟩
    · show 1024 ≤ b.a + z; omega
    · show b.a + z + 16 ≤ 8192; omega
    · show (b.a + z) % 16 = 0; omega
    · show 16 ≤ b.n - z; omega
    · show (b.n - z) % 16 = 0; omega
    · show b.a + z + (b.n - z) ≤ 8192; omega
    · show _ = _
      rw [hk ((b.a + z) / 4) (by omega)]; exact s3 hpos
  have memB : ∀ c, c ∈ pre ++ ⟨b.a, z, some d⟩ :: (R ++ suf) ↔ c ∈ pre ++ R ++ suf ∨ c = ⟨b.a, z, some d⟩ := fun c => by
    simp only [List.mem_append, List.mem_cons]
    constructor
    · rintro (h | h | h | h)
      · exact .inl (.inl (.inl h))
      · exact .inr h
      · exact .inl (.inl (.inr h))
      · exact .inl (.inr h)
    · rintro (((h | h) | h) | h)
      · exact .inl h
      · exact .inr (.inr (.inl h))
      · exact .inr (.inr (.inr h))
      · exact .inr (.inl h)
  refine ⟨?_, seg, fun c hc hcd k k1 k2 => ?_, hzr⟩
  · rw [← hR]
    refine ⟨hs0, hl, ?_, fun c hc => ?_, ?_, fun i hi x => ?_⟩
    · refine tiles_app.mpr ⟨b.a, t1, rfl, tiles_app.mpr ⟨b.a + b.n, ?_, t2⟩⟩
      rw [hR]
      split
      · exact ⟨rfl, by show _ = _; simp only []; omega⟩
      · show _ = _; simp only []; omega
    · rcases (memB c).mp hc with h | rfl
      · rcases List.mem_append.mp h with h | h
        · rcases List.mem_append.mp h with h | h
          · exact okO c (.inl h)
          · exact okR c h
        · exact okO c (.inr h)
      · refine ⟨ob.a, z1, z2, by show b.a + z ≤ 8192; omega, ?_⟩
        exact ⟨hh, okM d D, by rw [seg (d / 4) (by omega)]; exact hz⟩
    · have notin : ∀ i, i < 4 → ∀ x ∈ Ls₂ i, x + 16 ≤ b.a ∨ b.a + z ≤ x := fun i hi x hx => by
        obtain ⟨c, hc, rfl, _, _⟩ := (hm i hi x).mp hx
        rcases List.mem_append.mp hc with h | h
        · rcases List.mem_append.mp h with h | h
          · have := hp c h; have := (I.ok c (okc c (.inl h))).n; omega
          · obtain ⟨rfl, _⟩ := memR c h; right; exact Int.le_refl _
        · have := hs c h; omega
      refine f2.less f2.len (fun i hi => (f2.ch i hi).congr fun x hx => hk _ ?_) (fun i _ => List.Sublist.refl _) fun i hi x hx => hk _ ?_
      · have := notin i hi x hx
        obtain ⟨⟨_, _, _⟩, _⟩ := f2.ok i hi x hx
        omega
      · have := notin i hi x hx
        obtain ⟨⟨_, _, _⟩, _⟩ := f2.ok i hi x hx
        omega
    · rw [hm i hi x]
      constructor
      · rintro ⟨c, hc, h⟩; exact ⟨c, (memB c).mpr (.inl hc), h⟩
      · rintro ⟨c, hc, h1, h2, h3⟩
        rcases (memB c).mp hc with hc | rfl
        · exact ⟨c, hc, h1, h2, h3⟩
        · cases h2
  · have : c ∈ pre ∨ c ∈ suf := by
      rcases List.mem_append.mp hc with h | h
      · exact .inl h
      · rcases List.mem_cons.mp h with rfl | h
        · exact absurd hb hcd
        · exact .inr h
    exact cell c this k k1 k2 (.inl hcd)
end Mine
namespace Mine
theorem took_made {M M₁ : Int → Int} {F F₁ : List Int} {Ls : Nat → List Int} {B : List Bk} {st lim z d x : Int} {i : Nat} (I : Inv M F Ls B st lim) (hz : z = bsz (M (d / 4))) (D : DescOk M d) (hi : i < 4) (hx : x ∈ Ls i) (hle : z ≤ M (x / 4) - 1)
    (T : Took M F Ls i x M₁ F₁) : ∃ pre b suf, B = pre ++ b :: suf ∧ b.a = x ∧ b.d = none ∧ z ≤ b.n ∧ OkA x ∧ x + b.n ≤ 8192 ∧ b.n % 16 = 0 ∧ M₁ (x / 4) = b.n + 1 ∧
      (b.n - z ≤ 0 → ∃ Ls', Made M B pre b suf z d (zr (wr M₁ x d) (x + 4) (z / 4 - 1).toNat) F₁ Ls' st lim) ∧
      (b.n - z > 0 → ∃ Ls', Made M B pre b suf z d (zr (wr (wr (wr M₁ (x + z) (b.n - z + 1)) (x + z + 4) (F₁.getD (lnum (b.n - z)).toNat 0)) x d) (x + 4) (z / 4 - 1).toNat) (F₁.set (lnum (b.n - z)).toNat (x + z)) Ls' st lim) := by
  obtain ⟨b, hb, rfl, hbd, hbl⟩ := (I.ls i hi x).mp hx
  have ob := I.ok b hb
  have hM : M (b.a / 4) = b.n + 1 := by have := ob.h; unfold Head at this; rw [hbd] at this; exact this
  obtain ⟨pre, suf, rfl⟩ := List.append_of_mem hb
  obtain ⟨oa1, oa2, oa3⟩ := ob.a
  have obn := ob.n
  have obm := ob.m
  have obl := ob.l
  obtain ⟨t1, t2, hp, hs, _, hlim⟩ := tiles_mid I.ti I.pos
  obtain ⟨z1, z2, z3, z4⟩ := bsz_ok D.w
  rw [← hz] at z1 z2 z3 z4
  have hle' : z ≤ b.n := by omega
  have okc : ∀ c, c ∈ pre ∨ c ∈ suf → c ∈ pre ++ b :: suf := fun c h => by
    rcases h with h | h
    · exact List.mem_append_left _ h
    · exact List.mem_append_right _ (.tail _ h)
  have s1 : ∀ k, (∀ c ∈ pre ++ b :: suf, c.d = none → c.a ≠ b.a → k ≠ (c.a + 4) / 4) → M₁ k = M k := fun k h => T.same k fun p hp hn => by
    obtain ⟨c, hc, rfl, hd, _⟩ := (I.ls i hi p).mp hp
    exact h c hc hd hn
  have hM1 : M₁ (b.a / 4) = b.n + 1 := by
    rw [s1, hM]
    intro c hc _ _
    obtain ⟨⟨c1, c2, c3⟩, _⟩ := I.ok c hc
    omega
  have hm1 : ∀ j, j < 4 → ∀ x, x ∈ lset Ls i ((Ls i).erase b.a) j ↔ ∃ c ∈ pre ++ suf, c.a = x ∧ c.d = none ∧ (lnum c.n).toNat = j := fun j hj w => by
    rw [took_mem I.fl hi hj hx, I.ls j hj w]
    constructor
    · rintro ⟨⟨c, hc, rfl, h⟩, hne⟩
      refine ⟨c, ?_, rfl, h⟩
      rcases List.mem_append.mp hc with q | q
      · exact List.mem_append_left _ q
      · rcases List.mem_cons.mp q with rfl | q
        · exact absurd rfl hne
        · exact List.mem_append_right _ q
    · rintro ⟨c, hc, rfl, h⟩
      have hc' := List.mem_append.mp hc
      refine ⟨⟨c, okc c hc', rfl, h⟩, ?_⟩
      have := (I.ok c (okc c hc')).n
      rcases hc' with q | q
      · have := hp c q; omega
      · have := hs c q; omega
  refine ⟨pre, b, suf, rfl, rfl, hbd, hle', ob.a, obl, obm, hM1, fun h0 => ⟨lset Ls i ((Ls i).erase b.a), ?_⟩, fun h0 => ?_⟩
  · exact made_core (R := []) (M₁ := M₁) (M₂ := M₁) I hbd hz D hle' (by rw [if_neg (by omega)]) s1 (fun _ _ => rfl) (fun h => absurd h (by omega)) T.fl (by simpa using hm1)
  · have lb := lnum_bd (b.n - z)
    have ho : OkA (b.a + z) := ⟨by omega, by omega, by omega⟩
    have hn : ∀ j, j < 4 → b.a + z ∉ lset Ls i ((Ls i).erase b.a) j := fun j hj h => by
      obtain ⟨c, hc, e, _⟩ := (hm1 j hj _).mp h
      have hc' := List.mem_append.mp hc
      have := (I.ok c (okc c hc')).n
      rcases hc' with q | q
      · have := hp c q; omega
      · have := hs c q; omega
    obtain ⟨p1, p2, p3⟩ := T.fl.put (i := (lnum (b.n - z)).toNat) (by omega) ho hn (s := b.n - z) (by omega) (by omega) (by omega)
    refine ⟨_, made_core (R := [⟨b.a + z, b.n - z, none⟩]) (M₁ := M₁) (M₂ := wr (wr M₁ (b.a + z) (b.n - z + 1)) (b.a + z + 4) (F₁.getD (lnum (b.n - z)).toNat 0)) I hbd hz D hle' (by rw [if_pos h0]) s1 (fun k hk => p2 k (by omega) (by omega)) (fun _ => p3) p1 fun j hj w => ?_⟩
    have base := hm1 j hj w
    have e : w ∈ lset (lset Ls i ((Ls i).erase b.a)) (lnum (b.n - z)).toNat ((b.a + z) :: lset Ls i ((Ls i).erase b.a) (lnum (b.n - z)).toNat) j ↔ (w = b.a + z ∧ j = (lnum (b.n - z)).toNat) ∨ w ∈ lset Ls i ((Ls i).erase b.a) j := by
      by_cases q : j = (lnum (b.n - z)).toNat
      · subst q; rw [lset_self, List.mem_cons]; simp
      · rw [lset_ne q]; simp [q]
    rw [e, base]
    simp only [List.mem_append, List.mem_singleton]
    constructor
    · rintro (⟨rfl, rfl⟩ | ⟨c, hc, h⟩)
      · exact ⟨_, .inl (.inr rfl), rfl, rfl, rfl⟩
      · rcases hc with hc | hc
        · exact ⟨c, .inl (.inl hc), h⟩
        · exact ⟨c, .inr hc, h⟩
    · rintro ⟨c, (hc | rfl) | hc, h1, h2, h3⟩
      · exact .inr ⟨c, .inl hc, h1, h2, h3⟩
      · exact .inl ⟨h1.symm, h3.symm⟩
      · exact .inr ⟨c, .inr hc, h1, h2, h3⟩
end Mine
namespace Mine
open PySem.Calls PySem.Spec
inductive All2 {α β : Type} (F : α → β → Prop) : List α → List β → Prop
  | nil : All2 F [] []
  | cons {a b l r} : F a b → All2 F l r → All2 F (a :: l) (b :: r)
theorem All2.len {α β : Type} {F : α → β → Prop} {l : List α} {r : List β} (h : All2 F l r) : l.length = r.length := by
  induction h with
  | nil => rfl
  | cons _ _ ih => simp [ih]
theorem All2.mono {α β : Type} {F G : α → β → Prop} {l : List α} {r : List β} (h : All2 F l r) (g : ∀ a b, F a b → G a b) : All2 G l r := by
  induction h with
  | nil => exact .nil
  | cons h _ ih => exact .cons (g _ _ h) ih
theorem All2.app {α β : Type} {F : α → β → Prop} {l l' : List α} {r r' : List β} (h : All2 F l r) (h' : All2 F l' r') : All2 F (l ++ l') (r ++ r') := by
  induction h with
  | nil => exact h'
  | cons h _ ih => exact .cons h ih
theorem All2.snoc {α β : Type} {F : α → β → Prop} {l : List α} {r : List β} {a : α} {b : β} (h : All2 F l r) (h' : F a b) : All2 F (l ++ [a]) (r ++ [b]) := h.app (.cons h' .nil)
theorem All2.get {α β : Type} {F : α → β → Prop} {l : List α} {r : List β} (h : All2 F l r) : ∀ {i : Nat} {a : α}, l[i]? = some a → ∃ b, r[i]? = some b ∧ F a b := by
  induction h with
  | nil => intro i a e; simp at e
  | cons h _ ih =>
    intro i a e
    cases i with
    | zero => simp at e; subst e; exact ⟨_, by simp, h⟩
    | succ i => simp at e; simpa using ih e
theorem All2.getR {α β : Type} {F : α → β → Prop} {l : List α} {r : List β} (h : All2 F l r) : ∀ {i : Nat} {b : β}, r[i]? = some b → ∃ a, l[i]? = some a ∧ F a b := by
  induction h with
  | nil => intro i a e; simp at e
  | cons h _ ih =>
    intro i a e
    cases i with
    | zero => simp at e; subst e; exact ⟨_, by simp, h⟩
    | succ i => simp at e; simpa using ih e
theorem All2.mem {α β : Type} {F : α → β → Prop} {l : List α} {r : List β} (h : All2 F l r) {a : α} (ha : a ∈ l) : ∃ b ∈ r, F a b := by
  obtain ⟨i, hi⟩ := List.mem_iff_getElem?.mp ha
  obtain ⟨b, hb, f⟩ := h.get hi
  exact ⟨b, List.mem_of_getElem? hb, f⟩
def Sub (R R' : Hp) : Prop := ∀ b ao, R b = some ao → R' b = some ao
def TupSub (R R' : Hp) : Prop := ∀ t xs, R t = some (.tup xs) → R' t = some (.tup xs)
theorem Sub.refl (R : Hp) : Sub R R := fun _ _ e => e
theorem Sub.trans {A B C : Hp} (x : Sub A B) (y : Sub B C) : Sub A C := fun _ _ e => y _ _ (x _ _ e)
theorem Sub.tup {R R' : Hp} (x : Sub R R') : TupSub R R' := fun _ _ e => x _ _ e
theorem TupSub.trans {A B C : Hp} (x : TupSub A B) (y : TupSub B C) : TupSub A C := fun _ _ e => y _ _ (x _ _ e)
theorem Sub.new {R : Hp} {b : Addr} {ao : AO} (h : R b = none) : Sub R (upd R b ao) := fun c co e => by rw [upd_ne (fun q => by subst q; rw [h] at e; cases e)]; exact e
theorem TupSub.upd {R : Hp} {b : Addr} {ao : AO} (h : ∀ xs, R b ≠ some (.tup xs)) : TupSub R (upd R b ao) := fun c xs e => by rw [upd_ne (fun q => by subst q; exact h xs e)]; exact e
theorem TupSub.del {R : Hp} {b : Addr} (h : ∀ xs, R b ≠ some (.tup xs)) : TupSub R (del R b) := fun c xs e => by rw [del_ne (fun q => by subst q; exact h xs e)]; exact e
/-- a block as blocks() tells it -/
def DV (dv : Value) : Option Int → Prop
  | none => dv = .none
  | some d => ∃ t, dv = .int d t
def BkTup (R : Hp) (v : Value) (b : Bk) : Prop := ∃ t ta tn dv, v = .ref t ∧ R t = some (.tup [.int b.a ta, .int b.n tn, dv]) ∧ DV dv b.d
theorem BkTup.mono {R R' : Hp} (h : TupSub R R') (v : Value) (b : Bk) (x : BkTup R v b) : BkTup R' v b := let ⟨t, ta, tn, dv, e, q, r⟩ := x; ⟨t, ta, tn, dv, e, h _ _ q, r⟩
def bof : List Bk → Int → Int
  | [], _ => 0
  | b :: r, x => if x < b.a + b.n then (if b.d = none ∨ x < b.a + 8 then 0 else b.a + 8) else bof r x
theorem tiles_lt {S : List Bk} {a l : Int} (t : Tiles S a l) (hp : ∀ b ∈ S, 0 < b.n) : (a < l → ∃ b r, S = b :: r ∧ b.a = a ∧ Tiles r (a + b.n) l) ∧ (¬ a < l → S = []) := by
  cases S with
  | nil => cases t; exact ⟨fun h => absurd h (Int.lt_irrefl _), fun _ => rfl⟩
  | cons b r =>
    obtain ⟨h1, h2⟩ := t
    have := (tiles_bd h2 fun c hc => hp c (.tail _ hc)).1
    have := hp b (.head _)
    exact ⟨fun _ => ⟨b, r, rfl, h1, h2⟩, fun h => by omega⟩
theorem tiles_len : ∀ {B : List Bk} {a l : Int}, Tiles B a l → (∀ b ∈ B, 16 ≤ b.n) → 16 * (B.length : Int) ≤ l - a
  | [], _, _, t, _ => by cases t; simp
  | b :: r, a, l, ⟨_, t⟩, h => by
    have h1 := tiles_len t fun c hc => h c (.tail _ hc)
    have h2 := h b (.head _)
    simp only [List.length_cons]
    omega
theorem if_bool {p : Prop} {b : Bool} {A B : Prop} (e : b = true ↔ p) (h1 : p → A) (h2 : ¬p → B) : if b = true then A else B := by
  split
  · exact h1 (e.mp (by assumption))
  · exact h2 fun h => by rename_i q; exact q (e.mpr h)
end Mine
namespace Mine
/-! sweep, in plain Lean -/
abbrev kp (M : Int → Int) (b : Bk) : Prop := b.d ≠ none ∧ M ((b.a + 4) / 4) ≠ 0
def NA : List Bk → Prop
  | x :: y :: r => (x.d ≠ none ∨ y.d ≠ none) ∧ NA (y :: r)
  | _ => True
theorem na_snoc {c : Bk} : ∀ {A : List Bk}, NA A → (∀ l, A.getLast? = some l → l.d ≠ none ∨ c.d ≠ none) → NA (A ++ [c])
  | [], _, _ => trivial
  | [x], _, h => ⟨h x rfl, trivial⟩
  | x :: y :: r, n, h => ⟨n.1, na_snoc (A := y :: r) n.2 fun l hl => h l (by rw [List.getLast?_cons_cons]; exact hl)⟩
theorem na_last {c c' : Bk} (hd : c.d = c'.d) : ∀ {A : List Bk}, NA (A ++ [c]) → NA (A ++ [c'])
  | [], _ => trivial
  | [x], n => ⟨by rw [← hd]; exact n.1, trivial⟩
  | x :: y :: r, n => ⟨n.1, na_last hd (A := y :: r) n.2⟩
/-- the sum of what goes -/
def frd (M : Int → Int) : List Bk → Int
  | [] => 0
  | b :: r => (if b.d ≠ none ∧ ¬ kp M b then b.n else 0) + frd M r
theorem frd_snoc (M : Int → Int) (b : Bk) : ∀ A : List Bk, frd M (A ++ [b]) = frd M A + (if b.d ≠ none ∧ ¬ kp M b then b.n else 0)
  | [] => by simp [frd]
  | a :: r => by rw [List.cons_append, frd, frd, frd_snoc M b r]; omega
structure SwA (M : Int → Int) (P A : List Bk) (M' : Int → Int) (st cur : Int) : Prop where
  ti : Tiles A st cur
  us : ∀ c ∈ A, c.d ≠ none → c ∈ P ∧ kp M c
  fr : ∀ c ∈ A, c.d = none → OkA c.a ∧ 16 ≤ c.n ∧ c.n % 16 = 0
  kp : ∀ b ∈ P, kp M b → b ∈ A
  m0 : ∀ b ∈ P, Mine.kp M b → M' ((b.a + 4) / 4) = 0
  m1 : ∀ k, (∀ b ∈ P, Mine.kp M b → k ≠ (b.a + 4) / 4) → M' k = M k
  na : NA A
theorem mem_snoc {α : Type} {a b : α} {l : List α} : a ∈ l ++ [b] ↔ a ∈ l ∨ a = b := by simp
theorem tiles_snoc {A : List Bk} {st cur : Int} {b : Bk} (t : Tiles A st cur) (h : b.a = cur) : Tiles (A ++ [b]) st (cur + b.n) := tiles_app.mpr ⟨cur, t, h, rfl⟩
theorem SwA.keep {M M' : Int → Int} {P A : List Bk} {st cur : Int} {b : Bk} (S : SwA M P A M' st cur) (hb : b.a = cur) (hk : Mine.kp M b) : SwA M (P ++ [b]) (A ++ [b]) (wr M' (b.a + 4) 0) st (cur + b.n) where
  ti := tiles_snoc S.ti hb
  us := fun c hc hd => by
    rcases mem_snoc.mp hc with h | rfl
    · exact ⟨List.mem_append_left _ (S.us c h hd).1, (S.us c h hd).2⟩
    · exact ⟨by simp, hk⟩
  fr := fun c hc hd => by
    rcases mem_snoc.mp hc with h | rfl
    · exact S.fr c h hd
    · exact absurd hd hk.1
  kp := fun c hc h => by
    rcases mem_snoc.mp hc with h' | rfl
    · exact List.mem_append_left _ (S.kp c h' h)
    · simp
  m0 := fun c hc h => by
    unfold wr
    split
    · rfl
    · rename_i q
      rcases mem_snoc.mp hc with h' | rfl
      · exact S.m0 c h' h
      · exact absurd rfl q
  m1 := fun k h => by
    unfold wr
    rw [if_neg (h b (by simp) hk)]
    exact S.m1 k fun c hc => h c (List.mem_append_left _ hc)
  na := na_snoc S.na fun l _ => .inr hk.1
theorem SwA.gone {M M' : Int → Int} {P A A' : List Bk} {st cur : Int} {b : Bk} (S : SwA M P A M' st cur) (hk : ¬ Mine.kp M b) (ti : Tiles A' st (cur + b.n)) (us : ∀ c ∈ A', c.d ≠ none → c ∈ A) (fr : ∀ c ∈ A', c.d = none → OkA c.a ∧ 16 ≤ c.n ∧ c.n % 16 = 0) (kp' : ∀ c ∈ A, c.d ≠ none → c ∈ A') (na : NA A') :
    SwA M (P ++ [b]) A' M' st (cur + b.n) where
  ti := ti
  us := fun c hc hd => ⟨List.mem_append_left _ (S.us c (us c hc hd) hd).1, (S.us c (us c hc hd) hd).2⟩
  fr := fr
  kp := fun c hc h => by
    rcases mem_snoc.mp hc with h' | rfl
    · exact kp' c (S.kp c h' h) h.1
    · exact absurd h hk
  m0 := fun c hc h => by
    rcases mem_snoc.mp hc with h' | rfl
    · exact S.m0 c h' h
    · exact absurd h hk
  m1 := fun k h => S.m1 k fun c hc => h c (List.mem_append_left _ hc)
  na := na
theorem SwA.join {M M' : Int → Int} {P A : List Bk} {st cur : Int} {b c : Bk} (S : SwA M P (A ++ [c]) M' st cur) (hk : ¬ Mine.kp M b) (hc : c.d = none) (hn : 16 ≤ b.n) (hm : b.n % 16 = 0) : SwA M (P ++ [b]) (A ++ [⟨c.a, c.n + b.n, none⟩]) M' st (cur + b.n) ∧ c.a + c.n = cur := by
  obtain ⟨m, t1, rfl, t2⟩ := tiles_app.mp S.ti
  cases t2
  refine ⟨S.gone hk (tiles_app.mpr ⟨c.a, t1, rfl, by show _ = _; simp only []; omega⟩) (fun e he hd => ?_) (fun e he hd => ?_) (fun e he hd => ?_) (na_last (by rw [hc]) S.na), rfl⟩
  · rcases mem_snoc.mp he with h | rfl
    · exact List.mem_append_left _ h
    · exact absurd rfl hd
  · rcases mem_snoc.mp he with h | rfl
    · exact S.fr e (List.mem_append_left _ h) hd
    · obtain ⟨q1, q2, q3⟩ := S.fr c (by simp) hc
      exact ⟨q1, by show 16 ≤ c.n + b.n; omega, by show (c.n + b.n) % 16 = 0; omega⟩
  · rcases mem_snoc.mp he with h | rfl
    · exact List.mem_append_left _ h
    · exact absurd hc hd
theorem SwA.start {M M' : Int → Int} {P A : List Bk} {st cur : Int} {b : Bk} (S : SwA M P A M' st cur) (hk : ¬ Mine.kp M b) (hb : b.a = cur) (hl : ∀ l, A.getLast? = some l → l.d ≠ none) (ha : OkA b.a) (hn : 16 ≤ b.n) (hm : b.n % 16 = 0) :
    SwA M (P ++ [b]) (A ++ [⟨b.a, b.n, none⟩]) M' st (cur + b.n) :=
  S.gone hk (tiles_app.mpr ⟨cur, S.ti, hb, rfl⟩) (fun e he hd => by
    rcases mem_snoc.mp he with h | rfl
    · exact h
    · exact absurd rfl hd) (fun e he hd => by
    rcases mem_snoc.mp he with h | rfl
    · exact S.fr e h hd
    · exact ⟨ha, hn, hm⟩) (fun e he _ => List.mem_append_left _ he) (na_snoc S.na fun l h => .inl (hl l h))
def frees (A : List Bk) : List Bk := A.filter fun c => c.d.isNone
theorem frees_app (A B : List Bk) : frees (A ++ B) = frees A ++ frees B := List.filter_append ..
theorem mem_frees {A : List Bk} {c : Bk} : c ∈ frees A ↔ c ∈ A ∧ c.d = none := by unfold frees; rw [List.mem_filter]; simp
structure SwF (M' : Int → Int) (G : List Bk) (M'' : Int → Int) (F : List Int) (Ls : Nat → List Int) : Prop where
  fl : FL M'' F Ls
  ls : ∀ i, i < 4 → ∀ x, x ∈ Ls i ↔ ∃ c ∈ G, c.a = x ∧ (lnum c.n).toNat = i
  hd : ∀ c ∈ G, M'' (c.a / 4) = c.n + 1
  m : ∀ k, (∀ c ∈ G, k ≠ c.a / 4 ∧ k ≠ (c.a + 4) / 4) → M'' k = M' k
theorem SwF.nil (M : Int → Int) : SwF M [] M [0, 0, 0, 0] (fun _ => []) where
  fl := ⟨rfl, fun i hi => by
      match i, hi with
      | 0, _ => rfl
      | 1, _ => rfl
      | 2, _ => rfl
      | 3, _ => rfl, fun _ _ _ h => (nomatch h), fun _ _ => List.Pairwise.nil, fun _ _ _ _ _ h => (nomatch h)⟩
  ls := fun _ _ _ => ⟨fun h => (nomatch h), fun ⟨_, h, _⟩ => (nomatch h)⟩
  hd := fun _ h => (nomatch h)
  m := fun _ _ => rfl
theorem SwF.cons {M' M'' : Int → Int} {G : List Bk} {F : List Int} {Ls : Nat → List Int} {g : Bk} (S : SwF M' G M'' F Ls) (ho : OkA g.a) (hn : 16 ≤ g.n) (hm : g.n % 16 = 0) (hl : g.a + g.n ≤ 8192) (hG : ∀ c ∈ G, c.a ≠ g.a) (hO : ∀ c ∈ G, OkA c.a) :
    ∃ Ls', SwF M' (g :: G) (wr (wr M'' g.a (g.n + 1)) (g.a + 4) (F.getD (lnum g.n).toNat 0)) (F.set (lnum g.n).toNat g.a) Ls' := by
  have lb := lnum_bd g.n
  have ho' := ho
  obtain ⟨o1, o2, o3⟩ := ho'
  obtain ⟨p1, p2, p3⟩ := S.fl.put (i := (lnum g.n).toNat) (by omega) ho (s := g.n) (fun j hj h => by
    obtain ⟨c, hc, e, _⟩ := (S.ls j hj _).mp h
    exact hG c hc e) (by omega) (by omega) (by omega)
  refine ⟨_, p1, fun i hi x => ?_, fun c hc => ?_, fun k hk => ?_⟩
  · have e : x ∈ lset Ls (lnum g.n).toNat (g.a :: Ls (lnum g.n).toNat) i ↔ (x = g.a ∧ i = (lnum g.n).toNat) ∨ x ∈ Ls i := by
      by_cases q : i = (lnum g.n).toNat
      · subst q; rw [lset_self, List.mem_cons]; simp
      · rw [lset_ne q]; simp [q]
    rw [e, S.ls i hi x]
    constructor
    · rintro (⟨rfl, rfl⟩ | ⟨c, hc, h⟩)
      · exact ⟨g, .head _, rfl, rfl⟩
      · exact ⟨c, .tail _ hc, h⟩
    · rintro ⟨c, hc, h1, h2⟩
      rcases List.mem_cons.mp hc with rfl | hc
      · exact .inl ⟨h1.symm, h2.symm⟩
      · exact .inr ⟨c, hc, h1, h2⟩
  · rcases List.mem_cons.mp hc with rfl | hc
    · exact p3
    · obtain ⟨c1, c2, c3⟩ := hO c hc
      have := hG c hc
      rw [p2 _ (by omega) (by omega)]; exact S.hd c hc
  · have := hk g (.head _)
    rw [p2 k this.1 this.2]
    exact S.m k fun c hc => hk c (.tail _ hc)
structure Swept (M : Int → Int) (B : List Bk) (M' : Int → Int) (F' : List Int) (Ls' : Nat → List Int) (B' : List Bk) (st lim : Int) : Prop where
  inv : Inv M' F' Ls' B' st lim
  us : ∀ c ∈ B', c.d ≠ none → c ∈ B ∧ kp M c
  kp : ∀ b ∈ B, kp M b → b ∈ B'
  low : ∀ k, k < 256 → M' k = M k
  body : ∀ b ∈ B, Mine.kp M b → ∀ k, (b.a + 8) / 4 ≤ k → k < (b.a + b.n) / 4 → M' k = M k
  mark : ∀ b ∈ B, Mine.kp M b → M' ((b.a + 4) / 4) = 0
  na : NA B'
theorem swept {M M₁ M₂ : Int → Int} {F F₂ : List Int} {Ls Ls₂ : Nat → List Int} {B A : List Bk} {st lim : Int} (I : Inv M F Ls B st lim) (S : SwA M B A M₁ st lim) (f : SwF M₁ (frees A) M₂ F₂ Ls₂) : Swept M B M₂ F₂ Ls₂ A st lim := by
  have pos : ∀ c ∈ A, 0 < c.n := fun c hc => by
    cases hd : c.d with
    | none => have := (S.fr c hc hd).2.1; omega
    | some d => exact (I.ok c (S.us c hc (by rw [hd]; simp)).1).pos
  have okA : ∀ c ∈ A, OkA c.a ∧ 16 ≤ c.n ∧ c.n % 16 = 0 := fun c hc => by
    cases hd : c.d with
    | none => exact S.fr c hc hd
    | some d => have := I.ok c (S.us c hc (by rw [hd]; simp)).1; exact ⟨this.a, this.n, this.m⟩
  have bd := (tiles_bd S.ti pos).2
  have l1 := I.l1
  have s0 := I.s0
  have low : ∀ k, k < 256 → M₂ k = M k := fun k hk => by
    rw [f.m k fun c hc => ?_, S.m1 k fun b hb _ => ?_]
    · obtain ⟨⟨_, _, _⟩, _⟩ := I.ok b hb; omega
    · obtain ⟨⟨_, _, _⟩, _⟩ := okA c (mem_frees.mp hc).1; omega
  have cell : ∀ b ∈ B, Mine.kp M b → ∀ k, b.a / 4 ≤ k → k < (b.a + b.n) / 4 → M₂ k = M₁ k := fun b hb hk k k1 k2 => by
    have hbA := S.kp b hb hk
    obtain ⟨⟨b1, b2, b3⟩, b4, b5⟩ := okA b hbA
    refine f.m k fun c hc => ?_
    obtain ⟨hcA, hcd⟩ := mem_frees.mp hc
    obtain ⟨⟨c1, c2, c3⟩, c4, c5⟩ := okA c hcA
    rcases tiles_two S.ti pos hbA hcA with rfl | q | q
    · exact absurd hcd hk.1
    · omega
    · omega
  have body : ∀ b ∈ B, ∀ k, b.a / 4 ≤ k → k < (b.a + b.n) / 4 → k ≠ (b.a + 4) / 4 → M₁ k = M k := fun b hb k k1 k2 k3 => by
    refine S.m1 k fun e he hke => ?_
    have ob := I.ok b hb
    have oe := I.ok e he
    obtain ⟨b1, b2, b3⟩ := ob.a
    obtain ⟨e1, e2, e3⟩ := oe.a
    have := ob.n
    have := oe.n
    have := ob.m
    rcases tiles_two I.ti I.pos hb he with rfl | q | q
    · exact k3
    · omega
    · omega
  refine ⟨⟨s0, l1, S.ti, fun c hc => ?_, f.fl, fun i hi x => ?_⟩, S.us, S.kp, low, fun b hb hk k k1 k2 => ?_, fun b hb hk => ?_, S.na⟩
  · obtain ⟨q1, q2, q3⟩ := okA c hc
    refine ⟨q1, q2, q3, by have := bd c hc; omega, ?_⟩
    obtain ⟨q4, q5, q6⟩ := q1
    unfold Head
    cases hd : c.d with
    | none => exact f.hd c (mem_frees.mpr ⟨hc, hd⟩)
    | some d =>
      obtain ⟨hB, hk⟩ := S.us c hc (by rw [hd]; simp)
      have h := (I.ok c hB).h
      unfold Head at h
      rw [hd] at h
      obtain ⟨h1, h2, h3⟩ := h
      have e := low (d / 4) (by have := h2.u; omega)
      refine ⟨?_, ⟨h2.l, h2.u, h2.e, by rw [e]; exact h2.w, by rw [e]; exact h2.v⟩, by rw [e]; exact h3⟩
      rw [cell c hB hk _ (by omega) (by omega), body c hB _ (by omega) (by omega) (by omega)]
      exact h1
  · rw [f.ls i hi x]
    constructor
    · rintro ⟨c, hc, h1, h2⟩; obtain ⟨a, b⟩ := mem_frees.mp hc; exact ⟨c, a, h1, b, h2⟩
    · rintro ⟨c, hc, h1, h2, h3⟩; exact ⟨c, mem_frees.mpr ⟨hc, h2⟩, h1, h3⟩
  · have ob := I.ok b hb
    obtain ⟨b1, b2, b3⟩ := ob.a
    rw [cell b hb hk k (by omega) k2, body b hb k (by omega) k2 (by omega)]
  · have ob := I.ok b hb
    obtain ⟨b1, b2, b3⟩ := ob.a
    have := ob.n
    rw [cell b hb hk _ (by omega) (by omega)]
    exact S.m0 b hb hk
end Mine
namespace Mine
open PySem.Calls PySem.Spec
theorem All2.unsnoc {α β : Type} {F : α → β → Prop} {b : β} : ∀ {l : List α} {r : List β}, All2 F l (r ++ [b]) → ∃ l' a, l = l' ++ [a] ∧ All2 F l' r ∧ F a b
  | _, [], .cons h .nil => ⟨[], _, rfl, .nil, h⟩
  | _, _ :: _, .cons h t => let ⟨l', a, e, h1, h2⟩ := t.unsnoc; ⟨_ :: l', a, by rw [e]; rfl, .cons h h1, h2⟩
def RunTup (R : Hp) (v : Value) (c : Bk) : Prop := ∃ t ta tn, v = .ref t ∧ R t = some (.tup [.int c.a ta, .int c.n tn])
theorem RunTup.mono {R R' : Hp} (h : TupSub R R') (v : Value) (b : Bk) (x : RunTup R v b) : RunTup R' v b := let ⟨t, ta, tn, e, q⟩ := x; ⟨t, ta, tn, e, h _ _ q⟩
theorem getLast_snoc {α : Type} {A : List α} {c : α} : (A ++ [c]).getLast? = some c := by simp
theorem frees_snoc_used {A : List Bk} {b : Bk} (h : b.d ≠ none) : frees (A ++ [b]) = frees A := by
  rw [frees_app]; simp only [frees, List.filter_cons, List.filter_nil]
  cases hd : b.d with
  | none => exact absurd hd h
  | some d => simp
theorem frees_snoc_free {A : List Bk} {b : Bk} (h : b.d = none) : frees (A ++ [b]) = frees A ++ [b] := by
  rw [frees_app]; simp [frees, h]
section
variable {X : Fx} {n : Nat} {C : Cx} {m : Loc} {H : Hp} {env : Env}
theorem w_unpack2 {x₁ x₂ : Str} {p₁ p₂ pos : Pos} {k : Nat} {t : Addr} {a b : Value} {Q : Unit → Loc → Hp → Prop} (ht : H t = some (.tup [a, b]))
    (h : W X n C (storeName env x₁ a) m H (fun _ m₁ H₁ => W X n C (storeName env x₂ b) m₁ H₁ Q)) : W X n C (assign (.Tuple [.Name x₁ p₁, .Name x₂ p₂] k pos) env (.ref t)) m H Q := by
  refine w_unpack ht rfl rfl ?_
  refine w_order (w_asName (w_mono h fun v m' H' h' => ?_))
  exact w_order (w_asName (w_mono h' fun v m'' H'' h'' => w_order0 h''))
theorem w_unpack3 {x₁ x₂ x₃ : Str} {p₁ p₂ p₃ pos : Pos} {k : Nat} {t : Addr} {a b c : Value} {Q : Unit → Loc → Hp → Prop} (ht : H t = some (.tup [a, b, c]))
    (h : W X n C (storeName env x₁ a) m H (fun _ m₁ H₁ => W X n C (storeName env x₂ b) m₁ H₁ (fun _ m₂ H₂ => W X n C (storeName env x₃ c) m₂ H₂ Q))) : W X n C (assign (.Tuple [.Name x₁ p₁, .Name x₂ p₂, .Name x₃ p₃] k pos) env (.ref t)) m H Q := by
  refine w_unpack ht rfl rfl ?_
  refine w_order (w_asName (w_mono h fun v m' H' h' => ?_))
  refine w_order (w_asName (w_mono h' fun v m'' H'' h'' => ?_))
  exact w_order (w_asName (w_mono h'' fun v m'' H'' h'' => w_order0 h''))
end
end Mine
namespace Mine
theorem noPylong_m1 {x : Int} : Builtin.divisionGoesByPylong x (-1) = false := noPylong (Nat.lt_trans (show (-1 : Int).natAbs < 1000000000000 by decide) (by decide +kernel))
theorem tiles_pw : ∀ {A : List Bk} {st l : Int}, Tiles A st l → (∀ c ∈ A, 0 < c.n) → A.Pairwise fun b c => b.a + b.n ≤ c.a
  | [], _, _, _, _ => .nil
  | b :: r, st, l, ⟨e, t⟩, h => by
    refine .cons (fun c hc => ?_) (tiles_pw t fun c hc => h c (.tail _ hc))
    have := (tiles_bd t fun c hc => h c (.tail _ hc)).2 c hc
    omega
theorem frees_apart {A G₁ G₂ : List Bk} {g : Bk} {st l : Int} (t : Tiles A st l) (h : ∀ c ∈ A, 0 < c.n) (e : frees A = G₁ ++ [g] ++ G₂) : ∀ c ∈ G₂, c.a ≠ g.a := by
  have p : (frees A).Pairwise fun b c => b.a + b.n ≤ c.a := (tiles_pw t h).sublist List.filter_sublist
  intro c hc q
  have hg := h g (mem_frees.mp (by rw [e]; simp)).1
  rw [e] at p
  rw [List.pairwise_append] at p
  have := p.2.2 g (by simp) c hc
  omega
end Mine
namespace Mine
open PySem.Calls PySem.Spec
theorem upd_upd (H : Hp) (a : Addr) (x z : AO) : upd (upd H a x) a z = upd H a z := by
  funext b; unfold upd; split <;> rfl
section
variable {X : Fx} {n : Nat} {C : Cx} {m : Loc} {H : Hp} {env : Env}
theorem w_pow {a k : Int} {t u : Tok} {Q : Value → Loc → Hp → Prop} (hn : 0 ≤ k) (hn2 : k ≤ 1000000) (ha : a.natAbs < 2 ^ 64) (q : ∀ t, Q (.int (a ^ k.toNat) t) m H) : W X n C (binaryOp .Pow (.int a t) (.int k u)) m H Q := w_of fun _ _ _ S =>
  pow_int_small hn hn2 ha ⟨m, H, S.toks _, q _⟩
end
structure HandV (R : Hp) (cl : Addr) (xs : List Value) (L : List Value) : Prop where
  c : R cl = some (.list xs)
  i : ∀ x ∈ xs, ∃ k t, x = .int k t
  l : xs.length ≤ 63
  h : ∃ i d s t1 t2 t3, L = [.ref cl, .int i t1, .int d t2, .int s t3] ∧ 0 ≤ i ∧ i ≤ xs.length ∧ 0 ≤ d ∧ 0 ≤ s ∧ s < 2147483647
def HandIs (hand cl : Addr) (R : Hp) : Prop := ∃ xs L, R hand = some (.list L) ∧ HandV R cl xs L ∧ cl ≠ hand
theorem HandIs.keep {hand cl : Addr} {R R' : Hp} (h : HandIs hand cl R) (s1 : R' hand = R hand) (s2 : R' cl = R cl) : HandIs hand cl R' :=
  let ⟨xs, L, h1, h2, h3⟩ := h; ⟨xs, L, s1.trans h1, ⟨s2.trans h2.c, h2.i, h2.l, h2.h⟩, h3⟩
theorem HandIs.sub {hand cl : Addr} {R R' : Hp} (h : HandIs hand cl R) (s : Sub R R') : HandIs hand cl R' :=
  let ⟨xs, L, h1, h2, h3⟩ := h; ⟨xs, L, s _ _ h1, ⟨s _ _ h2.c, h2.i, h2.l, h2.h⟩, h3⟩
theorem HandIs.is {hand cl : Addr} {R : Hp} (h : HandIs hand cl R) : ∃ L, R hand = some (.list L) := let ⟨_, L, h1, _⟩ := h; ⟨L, h1⟩
theorem HandIs.cs {hand cl : Addr} {R : Hp} (h : HandIs hand cl R) : ∃ L, R cl = some (.list L) := let ⟨_, _, _, h2, _⟩ := h; ⟨_, h2.c⟩
/-- the hand's turn: the list turned, the cells as they were -/
theorem HandIs.turn {hand : Addr} {R : Hp} {cl : Addr} {xs L L' : List Value} (h : R hand = some (.list L)) (c : HandV R cl xs L) (n : cl ≠ hand) (i d s : Int) (t1 t2 t3 : Tok) (e : L' = [.ref cl, .int i t1, .int d t2, .int s t3]) (h0 : 0 ≤ i) (h1 : i ≤ xs.length) (h2 : 0 ≤ d) (h3 : 0 ≤ s) (h4 : s < 2147483647) :
    HandIs hand cl (upd R hand (.list L')) := ⟨xs, L', upd_self _ _ _, ⟨by rw [upd_ne n]; exact c.c, c.i, c.l, i, d, s, t1, t2, t3, e, h0, h1, h2, h3, h4⟩, n⟩
/-- a kind: its place and its width -/
def KindIs (R : Hp) (v : Value) (k : Int × Int) : Prop := ∃ t ta tw o, v = .ref t ∧ R t = some (.tup [.int k.1 ta, .int k.2 tw, .ref o])
theorem KindIs.mono {R R' : Hp} (h : TupSub R R') (v : Value) (k : Int × Int) (x : KindIs R v k) : KindIs R' v k := let ⟨t, ta, tw, o, e, q⟩ := x; ⟨t, ta, tw, o, e, h _ _ q⟩
/-- all but one address is kept -/
def SubX (a : Addr) (R R' : Hp) : Prop := ∀ b ao, b ≠ a → R b = some ao → R' b = some ao
theorem SubX.refl (a : Addr) (R : Hp) : SubX a R R := fun _ _ _ e => e
theorem SubX.trans {a : Addr} {A B C : Hp} (x : SubX a A B) (y : SubX a B C) : SubX a A C := fun _ _ n e => y _ _ n (x _ _ n e)
theorem Sub.x {a : Addr} {A B : Hp} (x : Sub A B) : SubX a A B := fun _ _ _ e => x _ _ e
theorem SubX.upd {a : Addr} {R : Hp} {ao : AO} : SubX a R (upd R a ao) := fun _ _ n e => by rw [upd_ne n]; exact e
theorem SubX.tup {a : Addr} {R R' : Hp} (x : SubX a R R') (h : ∀ xs, R a ≠ some (.tup xs)) : TupSub R R' := fun b xs e => x b _ (fun q => by subst q; exact h xs e) e
inductive RunsJ (CM CH : Addr) (y : Yd) (R : Hp) (M : Int → Int) (F : List Int) (st lim : Int) (B : List Bk) (vs : List Value) (rl : Addr) (i : Nat) (m : Loc) (H : Hp) : Prop
  | mk (gm : m "memory" = some (.ref y.mm.a)) (gr : m "runs" = some (.ref rl)) (P Bs A : List Bk) (M' : Int → Int) (R' : Hp) (rs : List Value) (cur bh : Int) (tf tb : Tok) (eB : B = P ++ Bs) (hi : P.length = i) (tl : Tiles Bs cur lim) (sw : SwA M P A M' st cur)
    (sub : Sub R R') (S : HS CM CH y R' M' F st lim H) (al : All2 (BkTup R') vs B) (hrs : R' rl = some (.list rs)) (ar : All2 (RunTup R') rs (frees A)) (gf : m "freed" = some (.int (frd M P) tf)) (gb : m "behind" = some (.int bh tb))
    (hbh : (∃ A' c, A = A' ++ [c] ∧ c.d = none ∧ bh = cur) ∨ ((∀ l, A.getLast? = some l → l.d ≠ none) ∧ (frees A ≠ [] → bh < cur)))
end Mine
namespace Mine
open PySem.Calls PySem.Spec
def KindsOk (M : Int → Int) (kinds : List (Int × Int)) : Prop := ∀ p ∈ kinds, (64 ≤ p.1 ∧ p.1 ≤ 352 ∧ p.1 % 4 = 0 ∧ p.1 % 2 = 0) ∧ M (p.1 / 4) = p.2 ∧ p.2 % 4 = 0 ∧ 0 ≤ p.2 ∧ p.2 ≤ 44
theorem KindsOk.desc {M : Int → Int} {kinds : List (Int × Int)} (h : KindsOk M kinds) {p : Int × Int} (hp : p ∈ kinds) : DescOk M p.1 := by
  obtain ⟨⟨a, b, c, d⟩, e, f, g, i⟩ := h p hp
  exact ⟨by omega, by omega, d, by omega, by omega⟩
theorem KindsOk.low {M M' : Int → Int} {kinds : List (Int × Int)} (h : KindsOk M kinds) (l : ∀ k, k < 256 → M' k = M k) : KindsOk M' kinds := fun p hp => by
  obtain ⟨⟨a, b, c, d⟩, e, f, g, i⟩ := h p hp
  exact ⟨⟨a, b, c, d⟩, by rw [l _ (by omega)]; exact e, f, g, i⟩
theorem SubX.at {a : Addr} {R R' : Hp} (x : SubX a R R') {b : Addr} {ao : AO} (e : R b = some ao) (n : b ≠ a) : R' b = some ao := x b ao n e
theorem inv_one {M M' : Int → Int} {F' : List Int} {Ls' : Nat → List Int} {st lim : Int} (f : SwF M [⟨st, lim - st, none⟩] M' F' Ls') (h0 : 1024 ≤ st) (h1 : st % 16 = 0) (h2 : lim ≤ 8192) (h3 : st + 16 ≤ lim) (h4 : lim % 16 = 0) : Inv M' F' Ls' [⟨st, lim - st, none⟩] st lim := by
  refine ⟨h0, h2, ⟨rfl, by show _ = _; simp only []; omega⟩, fun b hb => ?_, f.fl, fun i hi x => ?_⟩
  · have hh := f.hd b hb
    rw [List.mem_singleton] at hb
    subst hb
    exact ⟨⟨h0, by show st + 16 ≤ 8192; omega, h1⟩, by show 16 ≤ lim - st; omega, by show (lim - st) % 16 = 0; omega, by show st + (lim - st) ≤ 8192; omega, hh⟩
  · rw [f.ls i hi x]
    constructor
    · rintro ⟨c, hc, h, h'⟩; refine ⟨c, hc, h, ?_, h'⟩; rw [List.mem_singleton.mp hc]
    · rintro ⟨c, hc, h, _, h'⟩; exact ⟨c, hc, h, h'⟩
end Mine
namespace Mine
open PySem.Calls PySem.Spec
structure Rec where
  t : Int
  a : Int
  w : Int
def RecIs (R : Hp) (v : Value) (r : Rec) : Prop := ∃ t tt kv, v = .ref t ∧ R t = some (.tup [.int r.t tt, kv]) ∧ KindIs R kv (r.a, r.w)
theorem RecIs.mono {R R' : Hp} (h : TupSub R R') (v : Value) (r : Rec) (x : RecIs R v r) : RecIs R' v r := let ⟨t, tt, kv, e, q, k⟩ := x; ⟨t, tt, kv, e, h _ _ q, k.mono h⟩
def usedOf (B : List Bk) : List (Int × Int) := B.filterMap fun b => b.d.map fun d => (b.a, d)
def Rec.key (r : Rec) : Int × Int := (r.t - 8, r.a)
theorem usedOf_app (A B : List Bk) : usedOf (A ++ B) = usedOf A ++ usedOf B := List.filterMap_append
theorem usedOf_free {b : Bk} (h : b.d = none) (B : List Bk) : usedOf (b :: B) = usedOf B := by simp [usedOf, h]
theorem usedOf_used {b : Bk} {d : Int} (h : b.d = some d) (B : List Bk) : usedOf (b :: B) = (b.a, d) :: usedOf B := by simp [usedOf, h]
theorem mem_usedOf {B : List Bk} {p : Int × Int} : p ∈ usedOf B ↔ ∃ b ∈ B, b.a = p.1 ∧ b.d = some p.2 := by
  unfold usedOf
  rw [List.mem_filterMap]
  constructor
  · rintro ⟨b, hb, e⟩
    cases hd : b.d with
    | none => rw [hd] at e; cases e
    | some d => rw [hd] at e; cases e; exact ⟨b, hb, rfl, hd⟩
  · rintro ⟨b, hb, e1, e2⟩
    exact ⟨b, hb, by rw [e2, e1]; rfl⟩
def Marks (M : Int → Int) (B : List Bk) : Prop := ∀ b ∈ B, b.d ≠ none → M ((b.a + 4) / 4) = 0
theorem Made.keys {M : Int → Int} {B pre suf : List Bk} {b : Bk} {z d : Int} {M' : Int → Int} {F' : List Int} {Ls' : Nat → List Int} {st lim : Int} (_ : Made M B pre b suf z d M' F' Ls' st lim) (eB : B = pre ++ b :: suf) (hb : b.d = none) {ks : List (Int × Int)} (p : ks.Perm (usedOf B)) :
    (ks ++ [(b.a, d)]).Perm (usedOf (pre ++ ⟨b.a, z, some d⟩ :: ((if b.n - z > 0 then [⟨b.a + z, b.n - z, none⟩] else []) ++ suf))) := by
  have e1 : usedOf B = usedOf pre ++ usedOf suf := by rw [eB, usedOf_app, usedOf_free hb]
  have e2 : usedOf (pre ++ ⟨b.a, z, some d⟩ :: ((if b.n - z > 0 then [⟨b.a + z, b.n - z, none⟩] else []) ++ suf)) = usedOf pre ++ (b.a, d) :: usedOf suf := by
    rw [usedOf_app, usedOf_used (d := d) rfl]
    congr 2
    split
    · rw [List.singleton_append, usedOf_free rfl]
    · rfl
  rw [e2]
  rw [e1] at p
  exact (p.append_right [(b.a, d)]).trans (by
    rw [List.append_assoc]
    exact List.Perm.append_left _ (List.perm_append_comm))
theorem Made.marks {M : Int → Int} {B pre suf : List Bk} {b : Bk} {z d : Int} {M' : Int → Int} {F' : List Int} {Ls' : Nat → List Int} {st lim : Int} (K : Made M B pre b suf z d M' F' Ls' st lim) (eB : B = pre ++ b :: suf) (I : ∀ c ∈ B, OkA c.a ∧ 16 ≤ c.n) (hz : 16 ≤ z) (m : Marks M B) :
    Marks M' (pre ++ ⟨b.a, z, some d⟩ :: ((if b.n - z > 0 then [⟨b.a + z, b.n - z, none⟩] else []) ++ suf)) := by
  intro c hc hd
  have old : ∀ c ∈ B, c.d ≠ none → M' ((c.a + 4) / 4) = 0 := fun c hc hd => by
    obtain ⟨⟨_, _, _⟩, _⟩ := I c hc
    rw [K.used c hc hd _ (by omega) (by omega)]; exact m c hc hd
  rcases List.mem_append.mp hc with h | h
  · exact old c (by rw [eB]; exact List.mem_append_left _ h) hd
  · rcases List.mem_cons.mp h with rfl | h
    · obtain ⟨⟨_, _, _⟩, _⟩ := I b (by rw [eB]; simp)
      exact K.zero _ (by show b.a / 4 < (b.a + 4) / 4; omega) (by show (b.a + 4) / 4 < (b.a + z) / 4; omega)
    · rcases List.mem_append.mp h with h | h
      · split at h
        · rw [List.mem_singleton.mp h] at hd; exact absurd rfl hd
        · cases h
      · exact old c (by rw [eB]; exact List.mem_append_right _ (.tail _ h)) hd
theorem Inv.oka {M F Ls B st lim} (I : Inv M F Ls B st lim) : ∀ c ∈ B, OkA c.a ∧ 16 ≤ c.n := fun c hc => ⟨(I.ok c hc).a, (I.ok c hc).n⟩
end Mine
namespace Mine
open PySem.Calls PySem.Spec
def valI : Option Value → Int
  | some (.int k _) => k
  | _ => 0
section
variable {X : Fx} {n : Nat} {C : Cx} {m : Loc} {H : Hp} {env : Env}
theorem w_sum {l : Addr} {xs : List Value} {Q : Value → Loc → Hp → Prop} (hl : H l = some (.list xs)) (hi : ∀ x ∈ xs, ∃ k t, x = .int k t) (q : ∀ t, Q (.int (preSum (fun i => valI xs[i]?) xs.length) t) m H) : W X n C (call (.builtin "sum") [.ref l]) m H Q := w_of fun E s a S => by
  obtain ⟨o, ho, e, rfl⟩ := S.at hl
  have hls := S.isList hl
  have hne : l ≠ s.heap.objs.size := Nat.ne_of_lt (Heap.lt_size ho)
  refine call_sum_walkG (wpAny_pyIter_list hls ?_)
  have Wk := Walks.list (prog := X.prog) (w := X.w) (A := C.A.in1) a.h s.heap.objs.size l hne xs.toArray
  have eN : xs.toArray.size = xs.length := List.size_toArray ..
  rw [eN] at Wk
  refine ⟨s.heap.objs.size, _, _, xs.length, _, _, fun i => valI xs[i]?, rfl, Wk, ⟨⟨_, Heap.get?_push_size _ rfl, rfl, rfl⟩, hls.push _⟩, fun b hb => ?_, fun i v hv => ?_, fun h' tk t' k' => ?_⟩
  · show b < (s.heap.push _).objs.size
    rw [Heap.size_push]
    rcases List.mem_cons.mp hb with rfl | hb
    · exact Nat.lt_succ_self _
    · rw [List.mem_singleton.mp hb]; exact Nat.lt_succ_of_lt (Heap.lt_size ho)
  · have hv' : xs[i]? = some v := by simpa using hv
    obtain ⟨k, t, rfl⟩ := hi v (List.mem_of_getElem? hv')
    exact ⟨t, by show Value.int k t = Value.int (valI xs[i]?) t; rw [hv']; rfl⟩
  · refine ⟨m, H, ?_, q _⟩
    exact S.wrote (wr := [s.heap.objs.size]) (fun b o hb e => k' b o hb (Heap.get?_push_of_some _ e)) fun b hb => by rw [List.mem_singleton.mp hb]; exact ⟨S.none_of_size (Nat.le_refl _), S.fresh (Nat.le_refl _), S.ne_of_size (Nat.le_refl _)⟩
theorem w_slice {x : Str} {px pk p pos : Pos} {kk : Nat} {k : Int} {l : Addr} {vs : List Value} {ns : List Int} {Q : Value → Loc → Hp → Prop} (hx : m x = some (.ref l)) (hl : C.h₀.IsList l vs.toArray) (hi : IntsAre vs ns) (hz : vs.length ≤ sizeLine) (hk : 0 ≤ k)
    (q : ∀ d ys, H d = none → IntsAre ys (ns.take k.toNat) → Q (.ref d) m (upd H d (.list ys)))
    (hL : env.locals = C.L) (hf : env.scope.kind = .function) (hloc : env.kindOf x = some .local) (hd : (x == ("__debug__" : Str)) = false) :
    W X n C (eval (.Subscript (.Name x px) (.Slice none (some (.Constant (.int k) kk pk)) none p) pos) env) m H Q := w_of fun E s a S => by
  refine wpAny_Subscript_list_slice (wpAny_mono ((w_local (X := X) (n := n) (C := C) (H := H) (Q := fun v m' H' => v = .ref l ∧ m' = m ∧ H' = H) hx ⟨rfl, rfl, rfl⟩ hL hf hloc hd).go E s a S) (fun o s₁ z => ?_) fun _ _ e => e)
  obtain ⟨m₁, H₁, S₁, rfl, rfl, rfl⟩ := z
  rw [evalPart_none]
  refine wpAny_pure ?_
  refine wpAny_mono ((w_int (X := X) (n := n) (C := C) (H := H₁) (m := m₁) (env := env) (i := k) (k := kk) (pos := pk) (Q := fun v m' H' => (∃ t, v = .int k t) ∧ m' = m₁ ∧ H' = H₁) fun t => ⟨⟨t, rfl⟩, rfl, rfl⟩).go E s₁ a S₁) (fun vu s₃ z => ?_) fun _ _ e => e
  obtain ⟨m₃, H₃, S₃, ⟨t, rfl⟩, rfl, rfl⟩ := z
  obtain ⟨o, ho, e⟩ := hl
  refine ⟨l, vs.toArray, none, some k, rfl, ⟨o, S₃.kp _ _ ho, e⟩, by simpa using hz, .none, .int _ _, ?_⟩
  have hys := kmk_upto hi hk
  have hfr : H₃ (s₃.heap.objs.size + 1) = none := S₃.fresh (Nat.le_succ _)
  refine ⟨m₃, upd H₃ (s₃.heap.objs.size + 1) (.list (slicePick vs.toArray none (some k) none).toList), ?_, q _ _ hfr hys⟩
  have k1 : Keep s₃.heap (s₃.heap.push { cls := .type "slice", data := .fields #[.none, .int k t, .none] }) := (Keep.refl _).push _
  refine S₃.new (tk := s₃.toks) (o := { cls := .type "list", data := .seq (slicePick vs.toArray none (some k) none) }) (Nat.le_succ _) (k1.push _) ?_ ⟨0, by simp⟩
  have := Heap.get?_push_size (s₃.heap.push { cls := .type "slice", data := .fields #[.none, .int k t, .none] }) (o := { cls := .type "list", data := .seq (slicePick vs.toArray none (some k) none) }) rfl
  rw [Heap.size_push] at this
  exact this
theorem ints_of {vs : List Value} {ns : List Int} (h : IntsAre vs ns) : (∀ x ∈ vs, ∃ k t, x = .int k t) ∧ vs.length = ns.length := by
  induction h with
  | nil => exact ⟨fun _ h => (nomatch h), rfl⟩
  | cons k t _ ih =>
    refine ⟨fun x hx => ?_, by simp [ih.2]⟩
    rcases List.mem_cons.mp hx with rfl | hx
    · exact ⟨_, _, rfl⟩
    · exact ih.1 x hx
end
end Mine
namespace Mine
theorem Inv.frame {M M' : Int → Int} {F : List Int} {Ls : Nat → List Int} {B : List Bk} {st lim : Int} (I : Inv M F Ls B st lim) (l : ∀ k, k < 256 → M' k = M k) (h : ∀ b ∈ B, M' (b.a / 4) = M (b.a / 4)) (f : ∀ b ∈ B, b.d = none → M' ((b.a + 4) / 4) = M ((b.a + 4) / 4)) : Inv M' F Ls B st lim := by
  refine ⟨I.s0, I.l1, I.ti, fun b hb => ?_, I.fl.less I.fl.len (fun i hi => (I.fl.ch i hi).congr fun x hx => ?_) (fun _ _ => List.Sublist.refl _) fun i hi x hx => ?_, I.ls⟩
  · have o := I.ok b hb
    refine ⟨o.a, o.n, o.m, o.l, ?_⟩
    have hh := o.h
    unfold Head at hh ⊢
    cases hd : b.d with
    | none => rw [hd] at hh; show _ = _; rw [h b hb]; exact hh
    | some d =>
      rw [hd] at hh
      obtain ⟨h1, h2, h3⟩ := hh
      have e := l (d / 4) (by have := h2.u; omega)
      exact ⟨by rw [h b hb]; exact h1, ⟨h2.l, h2.u, h2.e, by rw [e]; exact h2.w, by rw [e]; exact h2.v⟩, by rw [e]; exact h3⟩
  · obtain ⟨b, hb, rfl, hd, _⟩ := (I.ls i hi x).mp hx
    exact f b hb hd
  · obtain ⟨b, hb, rfl, hd, _⟩ := (I.ls i hi x).mp hx
    exact h b hb
/-- marks set at some records -/
structure Marked (M : Int → Int) (recs : List Rec) (M' : Int → Int) : Prop where
  m : ∀ r ∈ recs, M' ((r.t - 4) / 4) ≠ 0
  k : ∀ k, (∀ r ∈ recs, k ≠ (r.t - 4) / 4) → M' k = M k
theorem Marked.nil (M : Int → Int) : Marked M [] M := ⟨fun _ h => (nomatch h), fun _ _ => rfl⟩
theorem Marked.snoc {M M' : Int → Int} {recs : List Rec} (h : Marked M recs M') (r : Rec) {v : Int} (h0 : 0 < v) (h1 : v < 4294967296) : Marked M (recs ++ [r]) (wr M' (r.t - 4) v) := by
  refine ⟨fun s hs => ?_, fun k hk => ?_⟩
  · unfold wr
    split
    · omega
    · rename_i q
      rcases mem_snoc.mp hs with hs | rfl
      · exact h.m s hs
      · exact absurd rfl q
  · unfold wr
    rw [if_neg (hk r (by simp))]
    exact h.k k fun s hs => hk s (List.mem_append_left _ hs)
theorem key_block {M F Ls B st lim} (I : Inv M F Ls B st lim) {recs : List Rec} (p : ∀ r ∈ recs, r.key ∈ usedOf B) {r : Rec} (hr : r ∈ recs) : ∃ b ∈ B, b.a = r.t - 8 ∧ b.d = some r.a ∧ OkA b.a := by
  obtain ⟨b, hb, h1, h2⟩ := mem_usedOf.mp (p r hr)
  exact ⟨b, hb, h1, h2, (I.ok b hb).a⟩
theorem inv_marked {M M' F Ls B st lim} (I : Inv M F Ls B st lim) {recs : List Rec} (p : ∀ r ∈ recs, r.key ∈ usedOf B) (mk : Marked M recs M') : Inv M' F Ls B st lim := by
  refine I.frame (fun k hk => mk.k k fun r hr => ?_) (fun b hb => mk.k _ fun r hr => ?_) fun b hb hd => mk.k _ fun r hr => ?_
  · obtain ⟨b, hb, e, _, ⟨_, _, _⟩⟩ := key_block I p hr; omega
  · obtain ⟨c, hc, e, _, ⟨_, _, _⟩⟩ := key_block I p hr; obtain ⟨_, _, _⟩ := (I.ok b hb).a; omega
  · obtain ⟨c, hc, e, hcd, ⟨_, _, _⟩⟩ := key_block I p hr
    have ob := I.ok b hb
    have oc := I.ok c hc
    obtain ⟨_, _, _⟩ := ob.a
    have := ob.n
    have := oc.n
    rcases tiles_two I.ti I.pos hb hc with rfl | q | q
    · rw [hd] at hcd; cases hcd
    · omega
    · omega
theorem kp_marked {M M' F Ls B st lim} (I : Inv M F Ls B st lim) {recs : List Rec} (p : ∀ r ∈ recs, r.key ∈ usedOf B) (mk : Marked M recs M') (z : Marks M B) {b : Bk} (hb : b ∈ B) : kp M' b ↔ ∃ r ∈ recs, r.t - 8 = b.a ∧ b.d = some r.a := by
  obtain ⟨b1, b2, b3⟩ := (I.ok b hb).a
  constructor
  · rintro ⟨hd, hm⟩
    by_cases h : ∃ r ∈ recs, (b.a + 4) / 4 = (r.t - 4) / 4
    · obtain ⟨r, hr, e⟩ := h
      obtain ⟨c, hc, e1, e2, ⟨_, _, _⟩⟩ := key_block I p hr
      have : b = c := by
        have ob := (I.ok b hb).n
        have oc := (I.ok c hc).n
        rcases tiles_two I.ti I.pos hb hc with q | q | q
        · exact q
        · omega
        · omega
      subst this
      exact ⟨r, hr, e1.symm, e2⟩
    · rw [mk.k _ fun r hr e => h ⟨r, hr, e⟩] at hm
      exact absurd (z b hb hd) hm
  · rintro ⟨r, hr, e, hd⟩
    refine ⟨by rw [hd]; simp, ?_⟩
    have := mk.m r hr
    rwa [show (r.t - 4) / 4 = (b.a + 4) / 4 by omega] at this
theorem usedOf_nodup {B : List Bk} {st lim : Int} (t : Tiles B st lim) (h : ∀ c ∈ B, 0 < c.n) : (usedOf B).Nodup := by
  have p := tiles_pw t h
  unfold List.Nodup usedOf
  rw [List.pairwise_filterMap]
  refine p.imp_of_mem fun {a b} ha hb hab => ?_
  intro x hx y hy e
  cases hda : a.d with
  | none => rw [hda] at hx; cases hx
  | some d =>
    cases hdb : b.d with
    | none => rw [hdb] at hy; cases hy
    | some d' =>
      rw [hda] at hx
      rw [hdb] at hy
      cases hx
      cases hy
      have := h a ha
      injection e with e1 e2
      omega
theorem swept_keys {M M₁ M₂ F F₂ Ls Ls₂ B B' st lim} (I : Inv M F Ls B st lim) {recs recs' : List Rec} (p : (recs.map Rec.key).Perm (usedOf B)) (sl : recs'.Sublist recs) (mk : Marked M recs' M₁) (z : Marks M B) (S : Swept M₁ B M₂ F₂ Ls₂ B' st lim) :
    (recs'.map Rec.key).Perm (usedOf B') ∧ Marks M₂ B' := by
  have hk : ∀ r ∈ recs', r.key ∈ usedOf B := fun r hr => p.mem_iff.mp (List.mem_map.mpr ⟨r, sl.subset hr, rfl⟩)
  have kc := fun {b : Bk} (hb : b ∈ B) => kp_marked I hk mk z hb
  refine ⟨?_, fun b hb hd => S.mark b (S.us b hb hd).1 (S.us b hb hd).2⟩
  have n1 : (recs'.map Rec.key).Nodup := (p.nodup_iff.mpr (usedOf_nodup I.ti I.pos)).sublist (sl.map _)
  have n2 := usedOf_nodup S.inv.ti S.inv.pos
  refine (List.perm_ext_iff_of_nodup n1 n2).mpr fun x => ?_
  rw [mem_usedOf, List.mem_map]
  constructor
  · rintro ⟨r, hr, rfl⟩
    obtain ⟨b, hb, e1, e2, _⟩ := key_block I hk hr
    exact ⟨b, S.kp b hb ((kc hb).mpr ⟨r, hr, e1.symm, e2⟩), e1, e2⟩
  · rintro ⟨b, hb, e1, e2⟩
    obtain ⟨hB, hkp⟩ := S.us b hb (by rw [e2]; simp)
    obtain ⟨r, hr, h1, h2⟩ := (kc hB).mp hkp
    refine ⟨r, hr, ?_⟩
    rw [e2] at h2
    injection h2 with h2
    show (r.t - 8, r.a) = x
    rw [h1, ← h2, e1]
/-! block_of -/
theorem bof_used : ∀ {B : List Bk} {st lim : Int}, Tiles B st lim → (∀ c ∈ B, 0 < c.n) → ∀ {b : Bk}, b ∈ B → b.d ≠ none → ∀ {x : Int}, b.a + 8 ≤ x → x < b.a + b.n → bof B x = b.a + 8
  | [], _, _, _, _, _, hb, _, _, _, _ => nomatch hb
  | c :: r, st, lim, ⟨e, t⟩, h, b, hb, hd, x, h1, h2 => by
    rcases List.mem_cons.mp hb with rfl | hb
    · rw [bof, if_pos h2, if_neg (by rintro (q | q); exact hd q; omega)]
    · have := (tiles_bd t fun c hc => h c (.tail _ hc)).2 b hb
      rw [bof, if_neg (by omega)]
      exact bof_used t (fun c hc => h c (.tail _ hc)) hb hd h1 h2
theorem bof_any : ∀ {B : List Bk} {st lim : Int}, Tiles B st lim → (∀ c ∈ B, 0 < c.n) → ∀ {x : Int}, bof B x = 0 ∨ ∃ b ∈ B, b.d ≠ none ∧ b.a + 8 ≤ x ∧ x < b.a + b.n
  | [], _, _, _, _, _ => .inl rfl
  | c :: r, st, lim, ⟨e, t⟩, h, x => by
    rw [bof]
    split
    · split
      · exact .inl rfl
      · rename_i h1 h2
        exact .inr ⟨c, .head _, fun q => h2 (.inl q), by have : ¬ x < c.a + 8 := fun q => h2 (.inr q); omega, h1⟩
    · rcases bof_any t fun c hc => h c (.tail _ hc) with h | ⟨b, hb, h⟩
      · exact .inl h
      · exact .inr ⟨b, .tail _ hb, h⟩
end Mine
namespace Mine
open PySem.Calls PySem.Spec
def dueF (f : Int → Option Value) (a : Int) (j : Nat) (v : Value) : Int → Option Value := fun k => if a ≤ k ∧ k < a + j then some v else f k
theorem dueF_zero (f : Int → Option Value) (a : Int) (v : Value) : dueF f a 0 v = f := by funext k; unfold dueF; rw [if_neg]; omega
theorem dueF_succ (f : Int → Option Value) (a : Int) (j : Nat) (v : Value) : (fun x => if x = a + (j : Int) * 1 then some v else dueF f a j v x) = dueF f a (j + 1) v := by
  funext k
  unfold dueF
  by_cases h : k = a + (j : Int) * 1
  · rw [if_pos h, if_pos (by omega)]
  · rw [if_neg h]
    by_cases h' : a ≤ k ∧ k < a + j
    · rw [if_pos h', if_pos (by omega)]
    · rw [if_neg h', if_neg (by omega)]
structure DueOk (recs : List Rec) (f : Int → Option Value) : Prop where
  a : ∀ k v, f k = some v → ∃ r ∈ recs, (∃ t, v = .int r.t t) ∧ r.t ≤ k ∧ k < r.t - 8 + bsz r.w
  b : ∀ r ∈ recs, ∀ k, r.t ≤ k → k < r.t - 8 + bsz r.w → ∃ v, f k = some v
theorem DueOk.snoc {recs : List Rec} {f : Int → Option Value} (h : DueOk recs f) (r : Rec) (t : Tok) (h0 : 8 ≤ bsz r.w) : DueOk (recs ++ [r]) (dueF f r.t (bsz r.w - 8).toNat (.int r.t t)) := by
  refine ⟨fun k v e => ?_, fun s hs k k1 k2 => ?_⟩
  · unfold dueF at e
    split at e
    · cases e; exact ⟨r, by simp, ⟨t, rfl⟩, by omega, by omega⟩
    · obtain ⟨s, hs, h⟩ := h.a k v e; exact ⟨s, List.mem_append_left _ hs, h⟩
  · unfold dueF
    split
    · exact ⟨_, rfl⟩
    · rename_i q
      rcases mem_snoc.mp hs with hs | rfl
      · exact h.b s hs k k1 k2
      · exact absurd ⟨k1, by omega⟩ q
theorem due_get {M F Ls B st lim} (I : Inv M F Ls B st lim) {recs : List Rec} (p : ∀ x, x ∈ recs.map Rec.key ↔ x ∈ usedOf B) (w : ∀ r ∈ recs, M (r.a / 4) = r.w) {f : Int → Option Value} (h : DueOk recs f) (x : Int) (t0 : Tok) :
    ∃ t, (f x).getD (.int 0 t0) = .int (if x < st ∨ x ≥ lim then 0 else bof B x) t := by
  have blk : ∀ r ∈ recs, ∃ b ∈ B, b.a = r.t - 8 ∧ b.d = some r.a ∧ b.n = bsz r.w := fun r hr => by
    obtain ⟨b, hb, h1, h2⟩ := mem_usedOf.mp ((p r.key).mp (List.mem_map.mpr ⟨r, hr, rfl⟩))
    have hh := (I.ok b hb).h
    unfold Head at hh
    have h2' : b.d = some r.a := h2
    rw [h2'] at hh
    exact ⟨b, hb, h1, h2', by rw [hh.2.2, w r hr]⟩
  cases hf : f x with
  | some v =>
    obtain ⟨r, hr, ⟨t, rfl⟩, h1, h2⟩ := h.a x v hf
    obtain ⟨b, hb, e1, e2, e3⟩ := blk r hr
    have bd := (tiles_bd I.ti I.pos).2 b hb
    refine ⟨t, ?_⟩
    rw [if_neg (by omega), bof_used I.ti I.pos hb (by rw [e2]; simp) (by omega) (by omega)]
    show Value.int r.t t = _
    congr 1
    omega
  | none =>
    refine ⟨t0, ?_⟩
    show Value.int 0 t0 = _
    congr 1
    split
    · rfl
    · rcases bof_any I.ti I.pos (x := x) with e | ⟨b, hb, hd, h1, h2⟩
      · exact e.symm
      · obtain ⟨d, hd⟩ := Option.ne_none_iff_exists'.mp hd
        have : (b.a, d) ∈ usedOf B := mem_usedOf.mpr ⟨b, hb, rfl, hd⟩
        obtain ⟨r, hr, e⟩ := List.mem_map.mp ((p _).mpr this)
        have e1 : r.t - 8 = b.a := congrArg Prod.fst e
        have e2 : r.a = d := congrArg Prod.snd e
        have hh := (I.ok b hb).h
        unfold Head at hh
        rw [hd] at hh
        have hn : b.n = bsz r.w := by rw [hh.2.2, ← e2, w r hr]
        obtain ⟨v, hv⟩ := h.b r hr x (by omega) (by omega)
        rw [hf] at hv; cases hv
end Mine
namespace Mine
section
variable {f : Nat → Int} {n : Nat} {cmp : Nat → Nat → (Bool → Shared → Prop) → Shared → Prop} {s : Shared}
  (hc : ∀ i j C, i < n → j < n → i ≠ j → C (decide (f i < f j)) s → cmp i j C s) (inj : ∀ i j, i < n → j < n → f i = f j → i = j)
include hc inj
end
end Mine
namespace Mine
open PySem.Calls PySem.Spec PySem.SeqAt
section
variable {X : Fx} {n : Nat} {C : Cx} {m : Loc} {H : Hp} {env : Env}
end
end Mine
namespace Mine
open PySem.Calls PySem.Spec PySem.SeqAt
section
variable {X : Fx} {n : Nat} {C : Cx} {m : Loc} {H : Hp} {env : Env}
end
end Mine
namespace Mine
end Mine
namespace Mine
end Mine
namespace Mine
section
variable {CM CH : Addr} {y : Yd} {hd cl c kl : Addr} {ks : List Value} {kinds : List (Int × Int)} {lim : Int} {l : Addr} {rs : List Value} {recs : List Rc} {R : Hp} {M : Int → Int} {F : List Int} {Ls : Nat → List Int} {B : List Bk} {H : Hp}
end
end Mine
namespace Mine
end Mine
namespace Mine
open PySem.Calls PySem.Spec PySem.SeqAt
section
variable {X : Fx} {n : Nat} {C : Cx} {m : Loc} {H : Hp} {env : Env}
end
end Mine
namespace Mine
/-! what is freed -/
end Mine
namespace Mine
/-! the blocks as the law rebuilds them from the records -/
/-! the free lists -/
end Mine
namespace Mine
section
variable {CM CH : Addr} {y : Yd} {hd cl c kl : Addr} {ks : List Value} {kinds : List (Int × Int)} {lim : Int} {l : Addr} {rs : List Value} {recs : List Rec} {R : Hp} {M : Int → Int} {F : List Int} {Ls : Nat → List Int} {B : List Bk} {H : Hp}
end
end Mine
namespace Mine
end Mine
namespace Mine
theorem rs1 {k : Int} (h : 0 ≤ k ∧ k ≤ 4000) : Builtin.Range.small 0 k 1 = true := r_small (by omega) (by omega) (by omega) (by omega) (.inr (by decide)) (by decide)
theorem rn1 {k : Int} (h : 0 ≤ k) : (Builtin.Range.rangeSize 0 k 1).toNat = k.toNat := by rw [rs_one (by omega)]; omega
theorem rn1' {n : Nat} : (Builtin.Range.rangeSize 0 (n : Int) 1).toNat = n := by rw [rs_one (by omega)]; omega
theorem szt {k : Int} (h : k ≤ 4000) : k.toNat ≤ sizeLine := by rw [sizeLine_eq]; omega
theorem rsA {a z : Int} (h : 0 ≤ a ∧ a + z ≤ 8192 ∧ 16 ≤ z ∧ z % 16 = 0) : Builtin.Range.small (a + 4) (a + z) 4 = true := r_small (by omega) (by omega) (by omega) (by omega) (.inr (by decide)) (by decide)
theorem rnA {a z : Int} (h : 0 ≤ a ∧ a + z ≤ 8192 ∧ 16 ≤ z ∧ z % 16 = 0) : (Builtin.Range.rangeSize (a + 4) (a + z) 4).toNat = (z / 4 - 1).toNat := by rw [rs_up (by decide) (by omega)]; omega
theorem inA {a z : Int} {i : Nat} (h : 0 ≤ a ∧ a + z ≤ 8192 ∧ 16 ≤ z ∧ z % 16 = 0) (hi : i < (z / 4 - 1).toNat) : 0 ≤ a + 4 + (i : Int) * 4 ∧ a + 4 + (i : Int) * 4 < 8192 := by omega
theorem mul4 {a : Int} {i : Nat} : a + 4 + 4 * (i : Int) = a + 4 + (i : Int) * 4 := by omega
end Mine
namespace Mine
inductive TakeF (CM CH : Addr) (y : Yd) (R : Hp) (M : Int → Int) (F : List Int) (st lim : Int) (Ls : Nat → List Int) (z : Int) (i : Nat) (m : Loc) (H : Hp) : Prop
  | mk (hs : m "self" = some (.ref y.hp)) (hz : ∃ t, m "size" = some (.int z t)) (S : HS CM CH y R M F st lim H) (hd : ∀ j, (lnum z).toNat ≤ j → j < (lnum z).toNat + i → ∀ x ∈ Ls j, M (x / 4) - 1 < z) : TakeF CM CH y R M F st lim Ls z i m H
inductive TakeW (CM CH : Addr) (y : Yd) (R : Hp) (M : Int → Int) (F : List Int) (st lim : Int) (Ls : Nat → List Int) (z : Int) (i k : Nat) (m : Loc) (H : Hp) : Prop
  | mk (gs : m "self" = some (.ref y.hp)) (gz : ∃ t, m "size" = some (.int z t)) (gn : ∃ t, m "number" = some (.int (lnum z + (i : Int) * 1) t)) (S : HS CM CH y R M F st lim H) (pre rest : List Int) (b : Int) (tb tp : Tok) (e : Ls ((lnum z).toNat + i) = pre ++ rest) (hk : k = rest.length)
    (gb : m "block" = some (.int b tb)) (gp : m "before" = some (.int (pre.getLast?.getD 0) tp)) (c : Chain M b rest) (hp : ∀ x ∈ pre, M (x / 4) - 1 < z) : TakeW CM CH y R M F st lim Ls z i k m H
inductive AreaJ (CM : Addr) (mm : Mm) (R : Hp) (hand cl c kl : Addr) (room : Int) (tr : Tok) (i : Nat) (m : Loc) (H : Hp) : Prop
  | mk (gm : m "memory" = some (.ref mm.a)) (gk : m "kinds" = some (.ref kl)) (gr : m "room" = some (.int room tr)) (R' : Hp) (M : Int → Int) (ks : List Value) (kinds : List (Int × Int)) (S : MS CM mm R' M H) (hh : HandIs hand cl R') (hc : R' c = some (.cell (some (.ref hand)))) (sx : SubX hand R R')
    (hkl : R' kl = some (.list ks)) (al : All2 (KindIs R') ks kinds) (hlen : kinds.length = i) (ko : KindsOk M kinds) (hlt : ∀ p ∈ kinds, p.1 < 64 + 96 * (i : Int)) : AreaJ CM mm R hand cl c kl room tr i m H
theorem rs1' {a b : Int} (h : -1000 ≤ a ∧ a ≤ 4000 ∧ -1000 ≤ b ∧ b ≤ 4000) : Builtin.Range.small a b 1 = true := r_small (by omega) (by omega) (by omega) (by omega) (.inr (by decide)) (by decide)
theorem lnN {z : Int} : (Builtin.Range.rangeSize (lnum z) 4 1).toNat = 4 - (lnum z).toNat ∧ (-1000 ≤ lnum z ∧ lnum z ≤ 4000 ∧ (-1000 : Int) ≤ 4 ∧ (4 : Int) ≤ 4000) := by
  have := lnum_bd z
  rw [rs_one (by omega)]
  omega
theorem lnI {z : Int} {i : Nat} : (lnum z + (i : Int) * 1).toNat = (lnum z).toNat + i ∧ 0 ≤ lnum z + (i : Int) * 1 := by have := lnum_bd z; omega
inductive MadeJ (CM CH : Addr) (y : Yd) (R : Hp) (M : Int → Int) (st lim : Int) (hand cl kl l : Addr) (kinds : List (Int × Int)) (recs₀ : List Rec) (i : Nat) (m : Loc) (H : Hp) : Prop
  | mk (gh : m "hand" = some (.ref hand)) (ga : m "area" = some (.ref y.hp)) (gk : m "kinds" = some (.ref kl)) (gr : m "records" = some (.ref l)) (R' : Hp) (M' : Int → Int) (F' : List Int) (Ls' : Nat → List Int) (B' : List Bk) (rs : List Value) (recs : List Rec) (S : HS CM CH y R' M' F' st lim H) (I : Inv M' F' Ls' B' st lim)
    (low : ∀ k, k < 256 → M' k = M k) (hh : HandIs hand cl R') (sx : SubX hand R R') (hrs : R' l = some (.list rs)) (ar : All2 (RecIs R') rs recs) (pr : ((recs₀ ++ recs).map Rec.key).Perm (usedOf B')) (hk : ∀ r ∈ recs, (r.a, r.w) ∈ kinds) (hm : Marks M' B') (hl : recs.length ≤ i) :
    MadeJ CM CH y R M st lim hand cl kl l kinds recs₀ i m H
inductive BlkJ (CM CH : Addr) (y : Yd) (R : Hp) (M : Int → Int) (F : List Int) (st lim : Int) (B : List Bk) (l : Addr) (k : Nat) (m : Loc) (H : Hp) : Prop
  | mk (gs : m "self" = some (.ref y.hp)) (gf : m "found" = some (.ref l)) (P Sx : List Bk) (cur : Int) (tc : Tok) (R' : Hp) (vs : List Value) (eB : B = P ++ Sx) (hk : k = Sx.length) (gb : m "block" = some (.int cur tc)) (tl : Tiles Sx cur lim) (sub : Sub R R') (S : HS CM CH y R' M F st lim H)
    (hl : R' l = some (.list vs)) (al : All2 (BkTup R') vs P) : BlkJ CM CH y R M F st lim B l k m H
end Mine
namespace Mine
def plain : Str := Str.ofString "a"
theorem plain_eq : plain = plain := rfl
name_quick tw2933560218625257953 for Mine.plain by Mine.plain_eq
name_quick tw8075568018651887793 for Mine.plain by Mine.plain_eq
name_quick tw4622596211255666275 for Mine.plain by Mine.plain_eq
name_quick tw17522200706408893777 for Mine.plain by Mine.plain_eq
name_quick tw1437513875802745899 for Mine.plain by Mine.plain_eq
name_quick tw11304879220846320617 for Mine.plain by Mine.plain_eq
name_quick tw10459078713815827633 for Mine.plain by Mine.plain_eq
name_quick tw12701003095985104682 for Mine.plain by Mine.plain_eq
name_quick tw14979626087600564940 for Mine.plain by Mine.plain_eq
name_quick tw16789607257665165339 for Mine.plain by Mine.plain_eq
name_quick tw16487347958798203451 for Mine.plain by Mine.plain_eq
name_quick tw9759809726879904816 for Mine.plain by Mine.plain_eq
name_quick tw12635297910168745909 for Mine.plain by Mine.plain_eq
set_option maxRecDepth 100000 in
set_option maxHeartbeats 8000000 in
open_top hd for PySem.Challenge.rw_nu0322_03
end Mine
namespace Mine
open PySem.Calls PySem.Spec
local macro_rules | `(tactic| ktr_rel) => `(tactic| first | with_unfolding_all rfl | with_unfolding_all assumption)
local macro_rules | `(tactic| tb_rel) => `(tactic| with_reducible first
  | (refine g_execs ?_; first
    | refine w_cons ?_
    | refine w_nil ?_)
  | (refine g_name ?_; first
    | refine w_local (by ktr_rel) ?_
    | refine w_global (by assumption) ?_
    | refine w_free (by with_unfolding_all rfl) (by assumption) ?_
    | refine w_cell (by with_unfolding_all rfl) (by assumption) ?_
    | refine w_bi (by assumption) ?_)
  | (refine g_call ?_; first
    | refine w_MCall ?_
    | refine w_Call ?_)
  | (refine g_eval ?_; first
    | refine w_BinOp ?_
    | refine w_int fun _ => ?_
    | refine w_Sub ?_
    | refine w_Attribute ?_
    | refine w_UnaryOp ?_
    | refine w_Compare ?_
    | refine w_IfExp ?_
    | refine w_str fun _ => ?_
    | refine w_none ?_
    | refine w_bool ?_)
  | (refine g_spl ?_; first
    | refine w_args0 ?_
    | refine w_args ?_)
  | (refine g_store ?_; first
    | refine w_store ?_
    | refine w_storeCell (by with_unfolding_all rfl) (by assumption) ?_)
  | (refine g_bin ?_; first
    | refine w_add fun _ => ?_
    | refine w_sub fun _ => ?_)
  | (refine g_cmp ?_; first
    | refine w_eq ?_
    | refine w_ne ?_
    | refine w_lt ?_
    | refine w_leq ?_
    | refine w_gt ?_
    | refine w_geq ?_)
  | (refine g_isTrue ?_; first
    | refine w_isCompare ?_
    | refine w_isAnd ?_
    | refine w_isOr ?_)
  | refine w_truthyB ?_
  | refine w_allAnd ?_
  | refine w_allOr ?_
  | refine w_allNilAnd ?_
  | refine w_allNilOr ?_
  | (refine g_load ?_;
     refine w_loadLocal (by ktr_rel) ?_)
  | (refine g_assign ?_; first
    | refine w_Assign ?_
    | refine w_AssignSub ?_
    | refine w_AssignAttr ?_
    | refine w_AssignTup ?_)
  | (refine g_exec ?_; first
    | refine w_Return ?_
    | refine w_If ?_
    | refine w_AugAssign ?_
    | refine w_Expr ?_
    | refine w_For ?_
    | refine w_ReturnNone ?_
    | refine w_Continue ?_)
  | refine w_iadd fun _ => ?_
  | refine w_neg fun _ => ?_
  | refine w_asName ?_
  | refine w_order0 ?_
  | refine w_order ?_)
section
def IsK (X : Fx) : Prop := X.K = hd.heap_39 X.w.params
section
variable {X : Fx} {H : Hp} (hX : IsK X)
include hX
theorem g_HEADER : ∃ t, nsIn X.K mainGlobals "HEADER" = some (some (.int 8 t)) := ⟨_, by rw [hX]; rfl⟩
theorem g_GRAIN : ∃ t, nsIn X.K mainGlobals "GRAIN" = some (some (.int 16 t)) := ⟨_, by rw [hX]; rfl⟩
theorem g_WORD : ∃ t, nsIn X.K mainGlobals "WORD" = some (some (.int 4294967296 t)) := ⟨_, by rw [hX]; rfl⟩
theorem g_LISTS : ∃ t, nsIn X.K mainGlobals "LISTS" = some (some (.int 4 t)) := ⟨_, by rw [hX]; rfl⟩
theorem fn_bsize : FnOk X.K "block_size" 28 := ⟨by rw [hX]; kernel_rfl, by rw [hX]; kernel_rfl⟩
theorem fn_lnum : FnOk X.K "list_number" 35 := ⟨by rw [hX]; kernel_rfl, by rw [hX]; kernel_rfl⟩
theorem gM_size : GetOk X.K 196 "size" := ⟨by rw [hX]; kernel_rfl, by rw [hX]; kernel_rfl, by rw [hX]; kernel_rfl⟩
theorem gM_words : GetOk X.K 196 "words" := ⟨by rw [hX]; kernel_rfl, by rw [hX]; kernel_rfl, by rw [hX]; kernel_rfl⟩
theorem mM_place : MethOk X.K 196 "place" 165 := ⟨by rw [hX]; kernel_rfl, by rw [hX]; kernel_rfl, by rw [hX]; kernel_rfl, by rw [hX]; kernel_rfl⟩
theorem mM_word : MethOk X.K 196 "word" 172 := ⟨by rw [hX]; kernel_rfl, by rw [hX]; kernel_rfl, by rw [hX]; kernel_rfl, by rw [hX]; kernel_rfl⟩
theorem mM_put : MethOk X.K 196 "put_word" 179 := ⟨by rw [hX]; kernel_rfl, by rw [hX]; kernel_rfl, by rw [hX]; kernel_rfl, by rw [hX]; kernel_rfl⟩
theorem c_bsize {r : Int} {t : Tok} {Q : Value → Hp → Prop} (q : ∀ t, Q (.int ((r + 23) / 16 * 16) t) H) : Spec X 1 (.ref 28) [.int r t] H Q := by
  refine spec_fn (f := 28) ["record_size"] (by rw [hX]; rfl) (by rw [hX]; rfl) (by rfl) (by rfl) (by rfl) (fun C => ?_)
  obtain ⟨t1, hG⟩ := g_GRAIN hX
  obtain ⟨t2, hH⟩ := g_HEADER hX
  repeat tb_rel
  refine w_fdiv (fun _ => ?_) (by decide) (noPylong_of (by decide) (by decide))
  repeat tb_rel
  refine w_mul (fun t => ?_) (.of_right (by decide))
  have : (r + 8 + 16 - 1).fdiv 16 * 16 = (r + 23) / 16 * 16 := by rw [Int.fdiv_eq_ediv_of_nonneg _ (by decide)]; congr 2; omega
  rw [this]
  exact q t
theorem c_lnum {r : Int} {t : Tok} {Q : Value → Hp → Prop} (q : ∀ t, Q (.int (lnum r) t) H) : Spec X 1 (.ref 35) [.int r t] H Q := by
  refine spec_fn (f := 35) ["size"] (by rw [hX]; rfl) (by rw [hX]; rfl) (by rfl) (by rfl) (by rfl) (fun C => ?_)
  iterate 7 tb_rel
  refine if_dec (fun h1 => ?_) (fun h1 => ?_)
  · iterate 3 tb_rel
    rename_i t
    have := q t
    unfold lnum at this
    rwa [if_pos h1] at this
  iterate 8 tb_rel
  refine if_dec (fun h2 => ?_) (fun h2 => ?_)
  · iterate 3 tb_rel
    rename_i t
    have := q t
    unfold lnum at this
    rwa [if_neg h1, if_pos h2] at this
  iterate 8 tb_rel
  refine if_dec (fun h3 => ?_) (fun h3 => ?_)
  · iterate 3 tb_rel
    rename_i t
    have := q t
    unfold lnum at this
    rwa [if_neg h1, if_neg h2, if_pos h3] at this
  iterate 4 tb_rel
  rename_i t
  have := q t
  unfold lnum at this
  rwa [if_neg h1, if_neg h2, if_neg h3] at this
theorem c_place {x : Int} {t t₀ : Tok} {a d : Addr} {wd : Addr} {Q : Value → Hp → Prop} (ha : H a = some (.inst 196 d)) (hd : H d = some (.ns (memF wd t₀) 2)) (h0 : 0 ≤ x) (h1 : x < 8192) (q : ∀ t, Q (.int (x / 4) t) H) :
    Spec X 1 (.ref 165) [.ref a, .int x t] H Q := by
  refine spec_fn (f := 165) ["self", "address"] (by rw [hX]; rfl) (by rw [hX]; rfl) (by rfl) (by rfl) (by rfl) (fun C => ?_)
  repeat tb_rel
  refine if_dec (fun h => by omega) (fun h => ?_)
  repeat tb_rel
  refine w_field (gM_size hX) ha hd (by rfl) (by rfl) ?_
  repeat tb_rel
  refine if_dec (fun h => by omega) (fun h => ?_)
  repeat tb_rel
  refine if_false ?_
  repeat tb_rel
  refine w_fdiv (fun t => ?_) (by decide) (noPylong_of (by decide) (by decide))
  rw [Int.fdiv_eq_ediv_of_nonneg _ (by decide)]
  exact q t
theorem c_word {y : Mm} {R : Hp} {M : Int → Int} {x : Int} {t : Tok} {Q : Value → Hp → Prop} (S : MS 196 y R M H) (h0 : 0 ≤ x) (h1 : x < 8192) (q : ∀ t, Q (.int (M (x / 4)) t) H) :
    Spec X 2 (.ref 172) [.ref y.a, .int x t] H Q := by
  obtain ⟨td, hd⟩ := S.d
  obtain ⟨g, hg, hw⟩ := S.w
  refine spec_fn (f := 172) ["self", "address"] (by rw [hX]; rfl) (by rw [hX]; rfl) (by rfl) (by rfl) (by rfl) (fun C => ?_)
  repeat tb_rel
  refine w_field (gM_words hX) S.a hd (by rfl) (by rfl) ?_
  refine w_mDict hg PySem.F.slot_dict_get PySem.F.type_dict_get ?_
  refine w_callB (by intro _ e; cases e) ?_ (by kernel_rfl) (by kernel_rfl)
  repeat tb_rel
  refine w_meth (mM_place hX) S.a hd (by rfl) ?_
  refine w_callK (mM_place hX).k ?_ (by kernel_rfl) (by kernel_rfl)
  repeat tb_rel
  refine w_call (c_place hX S.a hd h0 h1 fun t => ?_) (by decide)
  repeat tb_rel
  refine w_dget hg ?_
  cases hv : g (x / 4) with
  | none =>
    have := q (by assumption)
    rw [hw.1 _ hv] at this
    exact this
  | some v =>
    obtain ⟨_, t', rfl⟩ := hw.2 _ _ hv
    exact q t'
theorem c_put {y : Mm} {R : Hp} {M : Int → Int} {x v : Int} {t t' : Tok} {Q : Value → Hp → Prop} (S : MS 196 y R M H) (h0 : 0 ≤ x) (h1 : x < 8192) (q : ∀ H', MS 196 y R (wr M x v) H' → Q .none H') :
    Spec X 2 (.ref 179) [.ref y.a, .int x t, .int v t'] H Q := by
  obtain ⟨td, hd⟩ := S.d
  obtain ⟨g, hg, hw⟩ := S.w
  obtain ⟨tw, hW⟩ := g_WORD hX
  refine spec_fn (f := 179) ["self", "address", "value"] (by rw [hX]; rfl) (by rw [hX]; rfl) (by rfl) (by rfl) (by rfl) (fun C => ?_)
  repeat tb_rel
  refine w_fmod (fun tv => ?_) (by decide)
  repeat tb_rel
  refine w_field (gM_words hX) S.a hd (by rfl) (by rfl) ?_
  repeat tb_rel
  refine w_meth (mM_place hX) S.a hd (by rfl) ?_
  refine w_callK (mM_place hX).k ?_ (by kernel_rfl) (by kernel_rfl)
  repeat tb_rel
  refine w_call (c_place hX S.a hd h0 h1 fun t => ?_) (by decide)
  refine w_dset (B := 2048) hg (fun k hk => ?_) (by decide) ?_
  · cases hv : g k with
    | none => exact absurd hv hk
    | some v => exact (hw.2 _ _ hv).1
  · rw [Int.fmod_eq_emod_of_nonneg _ (by decide)]
    repeat tb_rel
    exact q _ (S.put hg h0 h1 tv hw S.wa S.wd)
end
end
section
section
variable {X : Fx} {H : Hp} (hX : IsK X)
include hX
theorem gH_memory : GetOk X.K 108 "memory" := ⟨by rw [hX]; kernel_rfl, by rw [hX]; kernel_rfl, by rw [hX]; kernel_rfl⟩
theorem gH_start : GetOk X.K 108 "start" := ⟨by rw [hX]; kernel_rfl, by rw [hX]; kernel_rfl, by rw [hX]; kernel_rfl⟩
theorem gH_limit : GetOk X.K 108 "limit" := ⟨by rw [hX]; kernel_rfl, by rw [hX]; kernel_rfl, by rw [hX]; kernel_rfl⟩
theorem gH_free : GetOk X.K 108 "free" := ⟨by rw [hX]; kernel_rfl, by rw [hX]; kernel_rfl, by rw [hX]; kernel_rfl⟩
theorem mH_put_free : MethOk X.K 108 "put_free" 56 := ⟨by rw [hX]; kernel_rfl, by rw [hX]; kernel_rfl, by rw [hX]; kernel_rfl, by rw [hX]; kernel_rfl⟩
theorem mH_is_free : MethOk X.K 108 "is_free" 63 := ⟨by rw [hX]; kernel_rfl, by rw [hX]; kernel_rfl, by rw [hX]; kernel_rfl, by rw [hX]; kernel_rfl⟩
theorem mH_descriptor : MethOk X.K 108 "descriptor" 70 := ⟨by rw [hX]; kernel_rfl, by rw [hX]; kernel_rfl, by rw [hX]; kernel_rfl, by rw [hX]; kernel_rfl⟩
theorem mH_size_of : MethOk X.K 108 "size_of" 77 := ⟨by rw [hX]; kernel_rfl, by rw [hX]; kernel_rfl, by rw [hX]; kernel_rfl, by rw [hX]; kernel_rfl⟩
theorem mH_take : MethOk X.K 108 "take_free" 84 := ⟨by rw [hX]; kernel_rfl, by rw [hX]; kernel_rfl, by rw [hX]; kernel_rfl, by rw [hX]; kernel_rfl⟩
theorem mH_alloc : MethOk X.K 108 "alloc" 91 := ⟨by rw [hX]; kernel_rfl, by rw [hX]; kernel_rfl, by rw [hX]; kernel_rfl, by rw [hX]; kernel_rfl⟩
theorem mH_blocks : MethOk X.K 108 "blocks" 98 := ⟨by rw [hX]; kernel_rfl, by rw [hX]; kernel_rfl, by rw [hX]; kernel_rfl, by rw [hX]; kernel_rfl⟩
theorem mH_block_of : MethOk X.K 108 "block_of" 105 := ⟨by rw [hX]; kernel_rfl, by rw [hX]; kernel_rfl, by rw [hX]; kernel_rfl, by rw [hX]; kernel_rfl⟩
theorem b_range : BuiltOk X.K "range" (.type "range") := ⟨by rw [hX]; kernel_rfl, by rfl⟩
theorem b_len : BuiltOk X.K "len" (.builtin "len") := ⟨by rw [hX]; kernel_rfl, by rfl⟩
variable {y : Yd} {R : Hp} {M : Int → Int} {F : List Int} {st lim : Int}
theorem c_isfree {x : Int} {t : Tok} {Q : Value → Hp → Prop} (S : HS 196 108 y R M F st lim H) (h0 : 0 ≤ x) (h1 : x < 8192) (q : Q (.bool (M (x / 4) % 2 == 1)) H) : Spec X 3 (.ref 63) [.ref y.hp, .int x t] H Q := by
  obtain ⟨t1, t2, fl, vs, h2, h3, h4, h5⟩ := S.hd
  obtain ⟨tm, hm⟩ := S.m.d
  refine spec_fn (f := 63) ["self", "block"] (by rw [hX]; rfl) (by rw [hX]; rfl) (by rfl) (by rfl) (by rfl) (fun C => ?_)
  repeat tb_rel
  refine w_field (gH_memory hX) S.hp h2 (by rfl) (by rfl) ?_
  refine w_meth (mM_word hX) S.m.a hm (by rfl) ?_
  refine w_callK (mM_word hX).k ?_ (by kernel_rfl) (by kernel_rfl)
  repeat tb_rel
  refine w_call (c_word hX S.m h0 h1 fun t => ?_) (by decide)
  repeat tb_rel
  refine w_fmod (fun t => ?_) (by decide)
  rw [Int.fmod_eq_emod_of_nonneg _ (by decide)]
  repeat tb_rel
  exact q
theorem c_desc {x : Int} {t : Tok} {Q : Value → Hp → Prop} (S : HS 196 108 y R M F st lim H) (h0 : 0 ≤ x) (h1 : x < 8192) (q : ∀ t, Q (.int (M (x / 4)) t) H) : Spec X 3 (.ref 70) [.ref y.hp, .int x t] H Q := by
  obtain ⟨t1, t2, fl, vs, h2, h3, h4, h5⟩ := S.hd
  obtain ⟨tm, hm⟩ := S.m.d
  refine spec_fn (f := 70) ["self", "block"] (by rw [hX]; rfl) (by rw [hX]; rfl) (by rfl) (by rfl) (by rfl) (fun C => ?_)
  repeat tb_rel
  refine w_field (gH_memory hX) S.hp h2 (by rfl) (by rfl) ?_
  refine w_meth (mM_word hX) S.m.a hm (by rfl) ?_
  refine w_callK (mM_word hX).k ?_ (by kernel_rfl) (by kernel_rfl)
  repeat tb_rel
  refine w_call (c_word hX S.m h0 h1 fun t => ?_) (by decide)
  exact q t
theorem c_size {x : Int} {t : Tok} {Q : Value → Hp → Prop} (S : HS 196 108 y R M F st lim H) (h0 : 0 ≤ x) (h1 : x < 8192) (hd : M (x / 4) % 2 = 1 ∨ (0 ≤ M (x / 4) ∧ M (x / 4) < 8192)) (q : ∀ t, Q (.int (szAt M x) t) H) :
    Spec X 3 (.ref 77) [.ref y.hp, .int x t] H Q := by
  obtain ⟨t1, t2, fl, vs, h2, h3, h4, h5⟩ := S.hd
  obtain ⟨tm, hm⟩ := S.m.d
  have nb := (fn_bsize hX).n
  refine spec_fn (f := 77) ["self", "block"] (by rw [hX]; rfl) (by rw [hX]; rfl) (by rfl) (by rfl) (by rfl) (fun C => ?_)
  repeat tb_rel
  refine w_field (gH_memory hX) S.hp h2 (by rfl) (by rfl) ?_
  refine w_meth (mM_word hX) S.m.a hm (by rfl) ?_
  refine w_callK (mM_word hX).k ?_ (by kernel_rfl) (by kernel_rfl)
  repeat tb_rel
  refine w_call (c_word hX S.m h0 h1 fun t => ?_) (by decide)
  repeat tb_rel
  refine w_fmod (fun t => ?_) (by decide)
  rw [Int.fmod_eq_emod_of_nonneg _ (by decide)]
  repeat tb_rel
  refine if_beq (fun h => ?_) (fun h => ?_)
  · repeat tb_rel
    rename_i tk
    have := q tk
    unfold szAt at this
    rwa [if_pos h] at this
  · repeat tb_rel
    refine w_callK (fn_bsize hX).k ?_ (by kernel_rfl) (by kernel_rfl)
    repeat tb_rel
    refine w_field (gH_memory hX) S.hp h2 (by rfl) (by rfl) ?_
    refine w_meth (mM_word hX) S.m.a hm (by rfl) ?_
    refine w_callK (mM_word hX).k ?_ (by kernel_rfl) (by kernel_rfl)
    repeat tb_rel
    have hd' := hd.resolve_left h
    refine w_call (c_word hX S.m hd'.1 hd'.2 fun t => ?_) (by decide)
    repeat tb_rel
    refine w_call (c_bsize hX fun t => ?_) (by decide)
    have := q t
    unfold szAt at this
    rwa [if_neg h] at this
theorem c_putH {x v : Int} {t t' : Tok} {Q : Value → Hp → Prop} (S : HS 196 108 y R M F st lim H) (h0 : 0 ≤ x) (h1 : x < 8192) (q : ∀ H', HS 196 108 y R (wr M x v) F st lim H' → Q .none H') :
    Spec X 2 (.ref 179) [.ref y.mm.a, .int x t, .int v t'] H Q := by
  obtain ⟨t1, t2, fl, vs, h2, h3, h4, h5⟩ := S.hd
  exact c_put hX (S.view h3) h0 h1 fun H' S' => q H' (S.of_view h2 h3 h4 h5 S').1
theorem c_putfree {x s : Int} {t t' : Tok} {Q : Value → Hp → Prop} (S : HS 196 108 y R M F st lim H) (hF : F.length = 4) (h0 : 0 ≤ x) (h1 : x + 4 < 8192)
    (q : ∀ H', HS 196 108 y R (wr (wr M x (s + 1)) (x + 4) (F.getD (lnum s).toNat 0)) (F.set (lnum s).toNat x) st lim H' → Q .none H') : Spec X 3 (.ref 56) [.ref y.hp, .int x t, .int s t'] H Q := by
  obtain ⟨t1, t2, fl, vs, h2, h3, h4, h5⟩ := S.hd
  obtain ⟨tm, hm⟩ := S.m.d
  have nl := (fn_lnum hX).n
  have lb := lnum_bd s
  refine spec_fn (f := 56) ["self", "block", "size"] (by rw [hX]; rfl) (by rw [hX]; rfl) (by rfl) (by rfl) (by rfl) (fun C => ?_)
  repeat tb_rel
  refine w_callK (fn_lnum hX).k ?_ (by kernel_rfl) (by kernel_rfl)
  repeat tb_rel
  refine w_call (c_lnum hX fun tl => ?_) (by decide)
  repeat tb_rel
  refine w_field (gH_memory hX) S.hp h2 (by rfl) (by rfl) ?_
  refine w_meth (mM_put hX) S.m.a hm (by rfl) ?_
  refine w_callK (mM_put hX).k ?_ (by kernel_rfl) (by kernel_rfl)
  repeat tb_rel
  refine w_call (c_put hX (S.view h3) h0 (by omega) fun H₁ S₁ => ?_) (by decide)
  obtain ⟨S₁, k2, k3⟩ := S.of_view h2 h3 h4 h5 S₁
  obtain ⟨tm₁, hm₁⟩ := S₁.m.d
  repeat tb_rel
  refine w_field (gH_memory hX) S₁.hp k2 (by rfl) (by rfl) ?_
  refine w_meth (mM_put hX) S₁.m.a hm₁ (by rfl) ?_
  refine w_callK (mM_put hX).k ?_ (by kernel_rfl) (by kernel_rfl)
  repeat tb_rel
  refine w_field (gH_free hX) S₁.hp k2 (by rfl) (by rfl) ?_
  repeat tb_rel
  have hlt : (lnum s).toNat < F.length := by omega
  obtain ⟨tv, hv⟩ := h4.2 (lnum s).toNat _ (List.getElem?_eq_getElem hlt)
  refine w_subL k3 lb.1 (by omega) hv ?_ (by with_unfolding_all rfl)
  repeat tb_rel
  refine w_call (c_put hX (S₁.view k3) (by omega) h1 fun H₂ S₂ => ?_) (by decide)
  obtain ⟨S₂, j2, j3⟩ := S₁.of_view k2 k3 h4 h5 S₂
  repeat tb_rel
  refine w_field (gH_free hX) S₂.hp j2 (by rfl) (by rfl) ?_
  repeat tb_rel
  refine w_lset j3 lb.1 (by omega) (by rw [h4.1]; omega) ?_
  repeat tb_rel
  have e : F.getD (lnum s).toNat 0 = F[(lnum s).toNat] := by rw [List.getD_eq_getElem?_getD, List.getElem?_eq_getElem hlt]; rfl
  rw [← e] at S₂
  exact q _ (S₂.free j2 j3 h5 (h4.set _ x t))
end
end
section
section
variable {X : Fx} {H : Hp} (hX : IsK X)
include hX
variable {y : Yd} {R : Hp} {M : Int → Int} {F : List Int} {st lim : Int}
theorem c_take {Ls : Nat → List Int} {z : Int} {tz : Tok} {Q : Value → Hp → Prop} (S : HS 196 108 y R M F st lim H) (f : FL M F Ls)
    (q0 : ∀ H' t, (∀ i, (lnum z).toNat ≤ i → i < 4 → ∀ x ∈ Ls i, M (x / 4) - 1 < z) → HS 196 108 y R M F st lim H' → Q (.int 0 t) H')
    (q1 : ∀ i x M' F' H' t, i < 4 → x ∈ Ls i → z ≤ M (x / 4) - 1 → Took M F Ls i x M' F' → HS 196 108 y R M' F' st lim H' → Q (.int x t) H') : Spec X 4 (.ref 84) [.ref y.hp, .int z tz] H Q := by
  have nl := (fn_lnum hX).n
  obtain ⟨tL, nL⟩ := g_LISTS hX
  have br := b_range hX
  have lb := lnum_bd z
  refine spec_fn (f := 84) ["self", "size"] (by rw [hX]; rfl) (by rw [hX]; rfl) (by rfl) (by rfl) (by rfl) (fun C => ?_)
  repeat tb_rel
  refine w_callB (by intro _ e; cases e) ?_ (by kernel_rfl) (by kernel_rfl)
  repeat tb_rel
  refine w_callK (fn_lnum hX).k ?_ (by kernel_rfl) (by kernel_rfl)
  repeat tb_rel
  refine w_call (c_lnum hX fun tl => ?_) (by decide)
  repeat tb_rel
  refine w_range2 fun r hr => ?_
  refine for_range (upd_self _ _ _) (rs1' lnN.2) (4 - (lnum z).toNat) lnN.1
    (TakeF 196 108 y R M F st lim Ls z)
    ⟨by rfl, ⟨_, by rfl⟩, S.add hr, fun j h1 h2 => by omega⟩ (fun i ti h m H hi hJ => ?_) (fun m H hJ => ?_) (by rfl) (by rfl) (by rfl)
  · obtain ⟨hs, ⟨ts, hz⟩, S, hd⟩ := hJ
    obtain ⟨t1, t2, fl, vs, h2, h3, h4, h5⟩ := S.hd
    have hi4 : (lnum z).toNat + i < 4 := by omega
    have hc := f.ch _ hi4
    repeat tb_rel
    refine w_field (gH_free hX) S.hp h2 (by rfl) (by rfl) ?_
    repeat tb_rel
    obtain ⟨tv, hv⟩ := h4.2 ((lnum z).toNat + i) (F.getD ((lnum z).toNat + i) 0) (by rw [List.getD_eq_getElem?_getD, List.getElem?_eq_getElem (by rw [f.len]; exact hi4)]; rfl)
    refine w_subL h3 lnI.2 (by omega) (by rw [lnI.1]; exact hv) ?_ (by with_unfolding_all rfl)
    repeat tb_rel
    refine w_While (TakeW 196 108 y R M F st lim Ls z i)
      (Ls ((lnum z).toNat + i)).length ⟨by with_unfolding_all assumption, ⟨_, by with_unfolding_all assumption⟩, ⟨_, by rfl⟩, S, [], _, _, _, _, rfl, rfl, by rfl, by rfl, hc, by simp⟩ ?_
    rintro k m₁ H₁ ⟨gs, ⟨ts₁, gz⟩, ⟨tn, gn⟩, S₁, pre, rest, b, tb, tp, e1, rfl, gb, gp, c, hpre⟩
    repeat tb_rel
    refine if_bne (fun hb => ?_) (fun hb => ?_)
    · rcases c.head with ⟨h, _⟩ | ⟨rest', rfl, c'⟩
      · exact absurd h hb
      have hbm : b ∈ Ls ((lnum z).toNat + i) := by rw [e1]; simp
      obtain ⟨⟨o1, o2, o3⟩, odd⟩ := f.ok _ hi4 b hbm
      obtain ⟨t1', t2', fl', vs', j2, j3, j4, j5⟩ := S₁.hd
      obtain ⟨tm, hm⟩ := S₁.m.d
      repeat tb_rel
      refine w_field (gH_memory hX) S₁.hp j2 (by rfl) (by rfl) ?_
      refine w_meth (mM_word hX) S₁.m.a hm (by rfl) ?_
      refine w_callK (mM_word hX).k ?_ (by kernel_rfl) (by kernel_rfl)
      repeat tb_rel
      refine w_call (c_word hX S₁.m (by omega) (by omega) fun tf => ?_) (by decide)
      repeat tb_rel
      refine w_meth (mH_size_of hX) S₁.hp j2 (by rfl) ?_
      refine w_callK (mH_size_of hX).k ?_ (by kernel_rfl) (by kernel_rfl)
      repeat tb_rel
      refine w_call (c_size hX S₁ (by omega) (by omega) (.inl odd) fun tq => ?_) (by decide)
      have esz : szAt M b = M (b / 4) - 1 := by unfold szAt; rw [if_pos odd]
      rw [esz]
      repeat tb_rel
      refine if_dec (fun hge => ?_) (fun hge => ?_)
      · repeat tb_rel
        refine if_beq (fun h0 => ?_) (fun h0 => ?_)
        · have epre : pre = [] := by
            cases hl : pre.getLast? with
            | none => exact List.getLast?_eq_none_iff.mp hl
            | some p =>
              rw [hl] at h0
              have hp : p ∈ Ls ((lnum z).toNat + i) := by rw [e1]; exact List.mem_append_left _ (List.mem_of_getLast? hl)
              exact absurd h0 (f.ok _ hi4 p hp).1.ne0
          subst epre
          repeat tb_rel
          refine w_field (gH_free hX) S₁.hp j2 (by rfl) (by rfl) ?_
          repeat tb_rel
          refine w_lset j3 lnI.2 (by omega) (by rw [j4.1, f.len]; omega) ?_
          rw [lnI.1]
          repeat tb_rel
          exact q1 _ b _ _ _ _ hi4 hbm hge (f.took_head hi4 e1) (S₁.free j2 j3 j5 (j4.set _ _ tf))
        · obtain ⟨pre', p, epre⟩ : ∃ pre' p, pre = pre' ++ [p] := by
            cases hl : pre.getLast? with
            | none => rw [hl] at h0; exact absurd rfl h0
            | some p =>
              obtain ⟨ys, hy⟩ := List.getLast?_eq_some_iff.mp hl
              exact ⟨ys, p, hy⟩
          subst epre
          have elast : (pre' ++ [p]).getLast?.getD 0 = p := by simp
          rw [elast] at gp
          have hp : p ∈ Ls ((lnum z).toNat + i) := by rw [e1]; simp
          obtain ⟨⟨p1, p2, p3⟩, _⟩ := f.ok _ hi4 p hp
          repeat tb_rel
          refine w_field (gH_memory hX) S₁.hp j2 (by rfl) (by rfl) ?_
          refine w_meth (mM_put hX) S₁.m.a hm (by rfl) ?_
          refine w_callK (mM_put hX).k ?_ (by kernel_rfl) (by kernel_rfl)
          repeat tb_rel
          refine w_call (c_putH hX S₁ (by omega) (by omega) fun H₂ S₂ => ?_) (by decide)
          repeat tb_rel
          exact q1 _ b _ _ _ _ hi4 hbm hge (f.took_mid (pre := pre') (rest := rest') hi4 (by rw [e1]; simp) rfl) S₂
      · repeat tb_rel
        refine ⟨rest'.length, by simp, by with_unfolding_all assumption, ⟨_, by with_unfolding_all assumption⟩, ⟨_, by with_unfolding_all assumption⟩, S₁, pre ++ [b], rest', _, _, tb, by rw [e1]; simp, rfl, by rfl, ?_, c', fun x hx => ?_⟩
        · have : (pre ++ [b]).getLast?.getD 0 = b := by simp
          rw [this]; rfl
        · rcases List.mem_append.mp hx with hx | hx
          · exact hpre x hx
          · rw [List.mem_singleton.mp hx]; omega
    · repeat tb_rel
      rcases c.head with ⟨_, rfl⟩ | ⟨rest', rfl, _⟩
      · rw [List.append_nil] at e1
        refine ⟨gs, ⟨_, gz⟩, S₁, fun j h1 h2 x hx => ?_⟩
        by_cases q : j = (lnum z).toNat + i
        · subst q; rw [e1] at hx; exact hpre x hx
        · exact hd j h1 (by omega) x hx
      · subst hb
        have := (f.ok _ hi4 0 (by rw [e1]; simp)).1.ne0
        exact absurd rfl this
  · obtain ⟨hs, hz, S, hd⟩ := hJ
    repeat tb_rel
    exact q0 _ _ (fun j h1 h2 => hd j h1 (by omega)) S
end
end
section
section
variable {X : Fx} {H : Hp} (hX : IsK X)
include hX
variable {y : Yd} {R : Hp} {M : Int → Int} {F : List Int} {st lim : Int}
theorem c_alloc {Ls : Nat → List Int} {B : List Bk} {d : Int} {td : Tok} {Q : Value → Hp → Prop} (S : HS 196 108 y R M F st lim H) (I : Inv M F Ls B st lim) (D : DescOk M d)
    (q0 : ∀ H' t, (∀ b ∈ B, b.d = none → b.n < bsz (M (d / 4))) → HS 196 108 y R M F st lim H' → Q (.int 0 t) H')
    (q1 : ∀ pre b suf M' F' Ls' H' t, B = pre ++ b :: suf → b.d = none → bsz (M (d / 4)) ≤ b.n → Made M B pre b suf (bsz (M (d / 4))) d M' F' Ls' st lim → HS 196 108 y R M' F' st lim H' → Q (.int (b.a + 8) t) H') :
    Spec X 5 (.ref 91) [.ref y.hp, .int d td] H Q := by
  obtain ⟨t1, t2, fl, vs, h2, h3, h4, h5⟩ := S.hd
  obtain ⟨tm, hm⟩ := S.m.d
  have nb := (fn_bsize hX).n
  have br := b_range hX
  obtain ⟨tH, hH⟩ := g_HEADER hX
  have D1 := D.l
  have D2 := D.u
  obtain ⟨z1, z2, z3, z4⟩ := bsz_ok D.w
  have zv := D.v
  refine spec_fn (f := 91) ["self", "descriptor"] (by rw [hX]; rfl) (by rw [hX]; rfl) (by rfl) (by rfl) (by rfl) (fun C => ?_)
  repeat tb_rel
  refine w_callK (fn_bsize hX).k ?_ (by kernel_rfl) (by kernel_rfl)
  repeat tb_rel
  refine w_field (gH_memory hX) S.hp h2 (by rfl) (by rfl) ?_
  refine w_meth (mM_word hX) S.m.a hm (by rfl) ?_
  refine w_callK (mM_word hX).k ?_ (by kernel_rfl) (by kernel_rfl)
  repeat tb_rel
  refine w_call (c_word hX S.m (by omega) (by omega) fun t => ?_) (by decide)
  repeat tb_rel
  refine w_call (c_bsize hX fun t => ?_) (by decide)
  rw [show (M (d / 4) + 23) / 16 * 16 = bsz (M (d / 4)) from rfl]
  generalize hz : bsz (M (d / 4)) = z at *
  repeat tb_rel
  refine w_meth (mH_take hX) S.hp h2 (by rfl) ?_
  refine w_callK (mH_take hX).k ?_ (by kernel_rfl) (by kernel_rfl)
  repeat tb_rel
  refine w_call (c_take hX S I.fl (fun H₁ t1 hno S₁ => ?_) (fun i x M₁ F₁ H₁ tx hi hx hge T S₁ => ?_)) (by decide)
  · repeat tb_rel
    refine if_beq (fun _ => ?_) (fun h => absurd rfl h)
    repeat tb_rel
    refine q0 _ _ (fun b hb hbd => ?_) S₁
    have ob := I.ok b hb
    have hMb : M (b.a / 4) = b.n + 1 := by have := ob.h; unfold Head at this; rw [hbd] at this; exact this
    by_cases hlt : b.n < z
    · exact hlt
    · have lb := lnum_bd b.n
      have := hno (lnum b.n).toNat (lnum_mono (by omega)) (by omega) b.a ((I.ls _ (by omega) _).mpr ⟨b, hb, rfl, hbd, rfl⟩)
      omega
  · obtain ⟨pre, b, suf, eB, rfl, hbd, hle, ox, hx8, hb16, hM1, whole, split⟩ := took_made I hz.symm D hi hx hge T
    have ob : OkB M b := I.ok b (by rw [eB]; simp)
    obtain ⟨ox1, ox2, ox3⟩ := ox
    obtain ⟨t1', t2', fl', vs', j2, j3, j4, j5⟩ := S₁.hd
    obtain ⟨tm', hm'⟩ := S₁.m.d
    have odd : M₁ (b.a / 4) % 2 = 1 := by rw [hM1]; omega
    repeat tb_rel
    refine if_beq (fun h => by omega) (fun _ => ?_)
    repeat tb_rel
    refine w_meth (mH_size_of hX) S₁.hp j2 (by rfl) ?_
    refine w_callK (mH_size_of hX).k ?_ (by kernel_rfl) (by kernel_rfl)
    repeat tb_rel
    refine w_call (c_size hX S₁ (by omega) (by omega) (.inl odd) fun tq => ?_) (by decide)
    have esz : szAt M₁ b.a = b.n := by unfold szAt; rw [if_pos odd, hM1]; omega
    rw [esz]
    repeat tb_rel
    refine if_dec (fun hpos => ?_) (fun hpos => ?_)
    · obtain ⟨Ls', Mk⟩ := split (by omega)
      repeat tb_rel
      refine w_meth (mH_put_free hX) S₁.hp j2 (by rfl) ?_
      refine w_callK (mH_put_free hX).k ?_ (by kernel_rfl) (by kernel_rfl)
      repeat tb_rel
      refine w_call (c_putfree hX S₁ T.fl.len (by omega) (by omega) fun H₂ S₂ => ?_) (by decide)
      obtain ⟨t1'', t2'', fl'', vs'', k2, k3, k4, k5⟩ := S₂.hd
      obtain ⟨tm'', hm''⟩ := S₂.m.d
      repeat tb_rel
      refine w_field (gH_memory hX) S₂.hp k2 (by rfl) (by rfl) ?_
      refine w_meth (mM_put hX) S₂.m.a hm'' (by rfl) ?_
      refine w_callK (mM_put hX).k ?_ (by kernel_rfl) (by kernel_rfl)
      repeat tb_rel
      refine w_call (c_putH hX S₂ (by omega) (by omega) fun H₃ S₃ => ?_) (by decide)
      repeat tb_rel
      refine w_callB (by intro _ e; cases e) ?_ (by kernel_rfl) (by kernel_rfl)
      repeat tb_rel
      refine w_range3 (by decide) (noPylong_of (by decide) (by decide)) fun r hr => ?_
      have zb : 0 ≤ b.a ∧ b.a + z ≤ 8192 ∧ 16 ≤ z ∧ z % 16 = 0 := by omega
      refine for_range (upd_self _ _ _) (rsA zb) (z / 4 - 1).toNat (rnA zb)
        (fun i m H => m "self" = some (.ref y.hp) ∧ (∃ t, m "block" = some (.int b.a t)) ∧ HS 196 108 y R (zr (wr (wr (wr M₁ (b.a + z) (b.n - z + 1)) (b.a + z + 4) (F₁.getD (lnum (b.n - z)).toNat 0)) b.a d) (b.a + 4) i) (F₁.set (lnum (b.n - z)).toNat (b.a + z)) st lim H)
        ⟨by rfl, ⟨_, by rfl⟩, by rw [zr_zero]; exact S₃.add hr⟩ (fun i ti h m H hi hJ => ?_) (fun m H hJ => ?_) (by rfl) (by rfl) (by rfl)
      · obtain ⟨hs, ⟨tb, hb'⟩, S₄⟩ := hJ
        obtain ⟨a1, a2, a3, a4, l2, l3, l4, l5⟩ := S₄.hd
        obtain ⟨tm₄, hm₄⟩ := S₄.m.d
        repeat tb_rel
        refine w_field (gH_memory hX) S₄.hp l2 (by rfl) (by rfl) ?_
        refine w_meth (mM_put hX) S₄.m.a hm₄ (by rfl) ?_
        refine w_callK (mM_put hX).k ?_ (by kernel_rfl) (by kernel_rfl)
        repeat tb_rel
        refine w_call (c_putH hX S₄ (inA zb hi).1 (inA zb hi).2 fun H₅ S₅ => ?_) (by decide)
        repeat tb_rel
        refine ⟨hs, ⟨_, hb'⟩, ?_⟩
        rw [← zr_succ _ _ _ (by omega)]
        rw [mul4]
        exact S₅
      · obtain ⟨hs, ⟨tb, hb'⟩, S₄⟩ := hJ
        repeat tb_rel
        exact q1 pre b suf _ _ _ _ _ eB hbd hle Mk S₄
    · obtain ⟨Ls', Mk⟩ := whole (by omega)
      repeat tb_rel
      refine w_field (gH_memory hX) S₁.hp j2 (by rfl) (by rfl) ?_
      refine w_meth (mM_put hX) S₁.m.a hm' (by rfl) ?_
      refine w_callK (mM_put hX).k ?_ (by kernel_rfl) (by kernel_rfl)
      repeat tb_rel
      refine w_call (c_putH hX S₁ (by omega) (by omega) fun H₃ S₃ => ?_) (by decide)
      repeat tb_rel
      refine w_callB (by intro _ e; cases e) ?_ (by kernel_rfl) (by kernel_rfl)
      repeat tb_rel
      refine w_range3 (by decide) (noPylong_of (by decide) (by decide)) fun r hr => ?_
      have zb : 0 ≤ b.a ∧ b.a + z ≤ 8192 ∧ 16 ≤ z ∧ z % 16 = 0 := by omega
      refine for_range (upd_self _ _ _) (rsA zb) (z / 4 - 1).toNat (rnA zb)
        (fun i m H => m "self" = some (.ref y.hp) ∧ (∃ t, m "block" = some (.int b.a t)) ∧ HS 196 108 y R (zr (wr M₁ b.a d) (b.a + 4) i) F₁ st lim H)
        ⟨by rfl, ⟨_, by rfl⟩, by rw [zr_zero]; exact S₃.add hr⟩ (fun i ti h m H hi hJ => ?_) (fun m H hJ => ?_) (by rfl) (by rfl) (by rfl)
      · obtain ⟨hs, ⟨tb, hb'⟩, S₄⟩ := hJ
        obtain ⟨a1, a2, a3, a4, l2, l3, l4, l5⟩ := S₄.hd
        obtain ⟨tm₄, hm₄⟩ := S₄.m.d
        repeat tb_rel
        refine w_field (gH_memory hX) S₄.hp l2 (by rfl) (by rfl) ?_
        refine w_meth (mM_put hX) S₄.m.a hm₄ (by rfl) ?_
        refine w_callK (mM_put hX).k ?_ (by kernel_rfl) (by kernel_rfl)
        repeat tb_rel
        refine w_call (c_putH hX S₄ (inA zb hi).1 (inA zb hi).2 fun H₅ S₅ => ?_) (by decide)
        repeat tb_rel
        refine ⟨hs, ⟨_, hb'⟩, ?_⟩
        rw [← zr_succ _ _ _ (by omega)]
        rw [mul4]
        exact S₅
      · obtain ⟨hs, ⟨tb, hb'⟩, S₄⟩ := hJ
        repeat tb_rel
        exact q1 pre b suf _ _ _ _ _ eB hbd hle Mk S₄
end
end
section
section
variable {X : Fx} {H : Hp} (hX : IsK X)
include hX
variable {y : Yd} {R : Hp} {M : Int → Int} {F : List Int} {st lim : Int}
theorem c_blocks {Ls : Nat → List Int} {B : List Bk} {Q : Value → Hp → Prop} (S : HS 196 108 y R M F st lim H) (I : Inv M F Ls B st lim)
    (q : ∀ H' R' l vs, Sub R R' → HS 196 108 y R' M F st lim H' → R' l = some (.list vs) → R l = none → All2 (BkTup R') vs B → Q (.ref l) H') : Spec X 4 (.ref 98) [.ref y.hp] H Q := by
  obtain ⟨t1, t2, fl, vs, h2, h3, h4, h5⟩ := S.hd
  refine spec_fn (f := 98) ["self"] (by rw [hX]; rfl) (by rw [hX]; rfl) (by rfl) (by rfl) (by rfl) (fun C => ?_)
  repeat tb_rel
  refine w_List ?_
  repeat tb_rel
  refine ⟨by decide, fun l hl => ?_⟩
  have Rl : R l = none := S.fresh hl
  have S₁ := S.new (ao := .list []) hl
  have h2' : upd H l (.list []) y.hd = some (.ns (heapF y.mm.a st lim fl t1 t2) 4) := by rw [upd_ne (fun q => by rw [← q, h2] at hl; cases hl)]; exact h2
  repeat tb_rel
  refine w_field (gH_start hX) S₁.hp h2' (by rfl) (by rfl) ?_
  repeat tb_rel
  refine w_While (BlkJ 196 108 y R M F st lim B l)
    B.length ⟨by rfl, by rfl, [], B, st, _, _, [], rfl, rfl, by rfl, I.ti, Sub.new Rl, S₁, upd_self _ _ _, .nil⟩ ?_
  rintro k m H₁ ⟨gs, gf, P, Sx, cur, tc, R', vs', eB, rfl, gb, tl, sub, S₂, hl', al⟩
  obtain ⟨t1', t2', fl', vs'', j2, j3, j4, j5⟩ := S₂.hd
  have hpos : ∀ b ∈ Sx, 0 < b.n := fun b hb => I.pos b (by rw [eB]; exact List.mem_append_right _ hb)
  repeat tb_rel
  refine w_field (gH_limit hX) S₂.hp j2 (by rfl) (by rfl) ?_
  repeat tb_rel
  refine if_dec (fun hlt => ?_) (fun hlt => ?_)
  · obtain ⟨b, r, rfl, rfl, tr⟩ := (tiles_lt tl hpos).1 hlt
    have ob := I.ok b (by rw [eB]; simp)
    obtain ⟨o1, o2, o3⟩ := ob.a
    obtain ⟨sz, fr, hd⟩ := ob.size
    have hn : P.length + (r.length + 1) ≤ 512 := by
      have h1 := tiles_len I.ti fun c hc => (I.ok c hc).n
      have h2 := I.s0
      have h3 := I.l1
      rw [eB, List.length_append, List.length_cons] at h1
      omega
    repeat tb_rel
    refine w_meth (mH_size_of hX) S₂.hp j2 (by rfl) ?_
    refine w_callK (mH_size_of hX).k ?_ (by kernel_rfl) (by kernel_rfl)
    repeat tb_rel
    refine w_call (c_size hX S₂ (by omega) (by omega) hd fun tq => ?_) (by decide)
    rw [sz]
    repeat tb_rel
    refine w_isValue ?_ (by with_unfolding_all rfl)
    repeat tb_rel
    refine w_meth (mH_is_free hX) S₂.hp j2 (by rfl) ?_
    refine w_callK (mH_is_free hX).k ?_ (by kernel_rfl) (by kernel_rfl)
    repeat tb_rel
    refine w_call (c_isfree hX S₂ (by omega) (by omega) ?_) (by decide)
    repeat tb_rel
    refine if_bool (p := b.d = none) (by rw [← fr]; simp) (fun hfree => ?_) (fun hused => ?_)
    · repeat tb_rel
      refine w_mList (S₂.get hl') PySem.F.slot_list_append PySem.F.type_list_append ?_
      refine w_callB (by intro _ e; cases e) ?_ (by kernel_rfl) (by kernel_rfl)
      repeat tb_rel
      refine w_Tuple ?_
      repeat tb_rel
      refine ⟨by rw [sizeLine_eq]; simp, fun t ht => ?_⟩
      have S₃ := S₂.new (ao := .tup [.int b.a tc, .int b.n tq, .none]) ht
      have Rt := S₂.fresh ht
      have hne : l ≠ t := fun q => by rw [← q, hl'] at Rt; cases Rt
      have hl3 : upd R' t (.tup [.int b.a tc, .int b.n tq, .none]) l = some (.list vs') := by rw [upd_ne hne]; exact hl'
      repeat tb_rel
      refine w_append (S₃.get hl3) (by have := al.len; show _ ≤ 16777216; omega) ?_
      have S₄ := S₃.set (ao := .list (vs' ++ [.ref t])) hl3
      have ts : TupSub R' (upd (upd R' t (.tup [.int b.a tc, .int b.n tq, .none])) l (.list (vs' ++ [.ref t]))) := (Sub.new Rt).tup.trans (TupSub.upd fun xs => by rw [hl3]; intro e; cases e)
      repeat tb_rel
      refine ⟨r.length, by simp, by with_unfolding_all assumption, by with_unfolding_all assumption, P ++ [b], r, b.a + b.n, _, _, _, by rw [eB]; simp, rfl, by rfl, tr, fun c co e => ?_, S₄, upd_self _ _ _,
        (al.mono (BkTup.mono ts)).snoc ⟨t, tc, tq, .none, rfl, ?_, by rw [hfree]; rfl⟩⟩
      · rw [upd_ne (fun q => by subst q; rw [Rl] at e; cases e)]
        exact Sub.new Rt _ _ (sub _ _ e)
      · rw [upd_ne (Ne.symm hne), upd_self]
    · obtain ⟨d, hdd⟩ := Option.ne_none_iff_exists'.mp hused
      have hMd : M (b.a / 4) = d := by have := ob.h; unfold Head at this; rw [hdd] at this; exact this.1
      repeat tb_rel
      refine w_mList (S₂.get hl') PySem.F.slot_list_append PySem.F.type_list_append ?_
      refine w_callB (by intro _ e; cases e) ?_ (by kernel_rfl) (by kernel_rfl)
      repeat tb_rel
      refine w_Tuple ?_
      repeat tb_rel
      refine w_meth (mH_descriptor hX) S₂.hp j2 (by rfl) ?_
      refine w_callK (mH_descriptor hX).k ?_ (by kernel_rfl) (by kernel_rfl)
      repeat tb_rel
      refine w_call (c_desc hX S₂ (by omega) (by omega) fun td => ?_) (by decide)
      rw [hMd]
      repeat tb_rel
      refine ⟨by rw [sizeLine_eq]; simp, fun t ht => ?_⟩
      have S₃ := S₂.new (ao := .tup [.int b.a tc, .int b.n tq, .int d td]) ht
      have Rt := S₂.fresh ht
      have hne : l ≠ t := fun q => by rw [← q, hl'] at Rt; cases Rt
      have hl3 : upd R' t (.tup [.int b.a tc, .int b.n tq, .int d td]) l = some (.list vs') := by rw [upd_ne hne]; exact hl'
      repeat tb_rel
      refine w_append (S₃.get hl3) (by have := al.len; show _ ≤ 16777216; omega) ?_
      have S₄ := S₃.set (ao := .list (vs' ++ [.ref t])) hl3
      have ts : TupSub R' (upd (upd R' t (.tup [.int b.a tc, .int b.n tq, .int d td])) l (.list (vs' ++ [.ref t]))) := (Sub.new Rt).tup.trans (TupSub.upd fun xs => by rw [hl3]; intro e; cases e)
      repeat tb_rel
      refine ⟨r.length, by simp, by with_unfolding_all assumption, by with_unfolding_all assumption, P ++ [b], r, b.a + b.n, _, _, _, by rw [eB]; simp, rfl, by rfl, tr, fun c co e => ?_, S₄, upd_self _ _ _,
        (al.mono (BkTup.mono ts)).snoc ⟨t, tc, tq, .int d td, rfl, ?_, by rw [hdd]; exact ⟨td, rfl⟩⟩⟩
      · rw [upd_ne (fun q => by subst q; rw [Rl] at e; cases e)]
        exact Sub.new Rt _ _ (sub _ _ e)
      · rw [upd_ne (Ne.symm hne), upd_self]
  · have := (tiles_lt tl hpos).2 hlt
    subst this
    rw [List.append_nil] at eB
    subst eB
    repeat tb_rel
    exact q _ R' l vs' sub S₂ hl' Rl al
theorem c_blockof {Ls : Nat → List Int} {B : List Bk} {x : Int} {tx : Tok} {Q : Value → Hp → Prop} (S : HS 196 108 y R M F st lim H) (I : Inv M F Ls B st lim)
    (q : ∀ t, Q (.int (if x < st ∨ x ≥ lim then 0 else bof B x) t) H) : Spec X 4 (.ref 105) [.ref y.hp, .int x tx] H Q := by
  obtain ⟨t1, t2, fl, vs, h2, h3, h4, h5⟩ := S.hd
  obtain ⟨tH, hH⟩ := g_HEADER hX
  refine spec_fn (f := 105) ["self", "address"] (by rw [hX]; rfl) (by rw [hX]; rfl) (by rfl) (by rfl) (by rfl) (fun C => ?_)
  repeat tb_rel
  refine w_field (gH_start hX) S.hp h2 (by rfl) (by rfl) ?_
  repeat tb_rel
  refine if_dec (fun hlt => ?_) (fun hlt => ?_)
  · refine if_true ?_
    repeat tb_rel
    rename_i tk
    have := q tk
    rwa [if_pos (.inl hlt)] at this
  repeat tb_rel
  refine w_field (gH_limit hX) S.hp h2 (by rfl) (by rfl) ?_
  repeat tb_rel
  refine if_dec (fun hge => ?_) (fun hge => ?_)
  · refine if_true ?_
    repeat tb_rel
    rename_i tk
    have := q tk
    rwa [if_pos (.inr hge)] at this
  repeat tb_rel
  refine if_false ?_
  repeat tb_rel
  refine w_field (gH_start hX) S.hp h2 (by rfl) (by rfl) ?_
  repeat tb_rel
  have q : ∀ t, Q (.int (bof B x) t) H := fun t => by have := q t; rwa [if_neg (by omega)] at this
  refine w_While (fun k m H₁ => H₁ = H ∧ m "self" = some (.ref y.hp) ∧ (∃ t, m "address" = some (.int x t)) ∧ ∃ P Sx cur tc, B = P ++ Sx ∧ k = Sx.length ∧ m "block" = some (.int cur tc) ∧ Tiles Sx cur lim ∧ bof B x = bof Sx x)
    B.length ⟨rfl, by rfl, ⟨_, by rfl⟩, [], B, st, _, rfl, rfl, by rfl, I.ti, rfl⟩ ?_
  rintro k m H₁ ⟨rfl, gs, ⟨ta, ga⟩, P, Sx, cur, tc, eB, rfl, gb, tl, ebof⟩
  have hpos : ∀ b ∈ Sx, 0 < b.n := fun b hb => I.pos b (by rw [eB]; exact List.mem_append_right _ hb)
  repeat tb_rel
  refine w_field (gH_limit hX) S.hp h2 (by rfl) (by rfl) ?_
  repeat tb_rel
  refine if_dec (fun hlt => ?_) (fun hlt => ?_)
  · obtain ⟨b, r, rfl, rfl, tr⟩ := (tiles_lt tl hpos).1 hlt
    have ob := I.ok b (by rw [eB]; simp)
    obtain ⟨o1, o2, o3⟩ := ob.a
    obtain ⟨sz, fr, hd⟩ := ob.size
    repeat tb_rel
    refine w_meth (mH_size_of hX) S.hp h2 (by rfl) ?_
    refine w_callK (mH_size_of hX).k ?_ (by kernel_rfl) (by kernel_rfl)
    repeat tb_rel
    refine w_call (c_size hX S (by omega) (by omega) hd fun tq => ?_) (by decide)
    rw [sz]
    repeat tb_rel
    refine if_dec (fun hin => ?_) (fun hin => ?_)
    · have e1 : bof (b :: r) x = if b.d = none ∨ x < b.a + 8 then 0 else b.a + 8 := by rw [bof, if_pos hin]
      rw [ebof, e1] at q
      repeat tb_rel
      refine w_isValue ?_ (by with_unfolding_all rfl)
      repeat tb_rel
      refine w_meth (mH_is_free hX) S.hp h2 (by rfl) ?_
      refine w_callK (mH_is_free hX).k ?_ (by kernel_rfl) (by kernel_rfl)
      repeat tb_rel
      refine w_call (c_isfree hX S (by omega) (by omega) ?_) (by decide)
      repeat tb_rel
      refine if_bool (p := b.d = none) (by rw [← fr]; simp) (fun hfree => ?_) (fun hused => ?_)
      · refine if_true ?_
        repeat tb_rel
        rename_i tk
        have := q tk
        rwa [if_pos (.inl hfree)] at this
      · repeat tb_rel
        refine if_dec (fun hhead => ?_) (fun hhead => ?_)
        · refine if_true ?_
          repeat tb_rel
          rename_i tk
          have := q tk
          rwa [if_pos (.inr hhead)] at this
        · repeat tb_rel
          refine if_false ?_
          repeat tb_rel
          rename_i tk
          have := q tk
          rwa [if_neg (by rintro (h | h); exact hused h; exact hhead h)] at this
    · repeat tb_rel
      exact ⟨r.length, by simp, rfl, by with_unfolding_all assumption, ⟨_, by with_unfolding_all assumption⟩, P ++ [b], r, _, _, by rw [eB]; simp, rfl, by rfl, tr, by rw [ebof, bof, if_neg hin]⟩
  · have := (tiles_lt tl hpos).2 hlt
    subst this
    rw [ebof] at q
    repeat tb_rel
    exact q _
end
end
section
section
variable {X : Fx} {H : Hp} (hX : IsK X)
include hX
variable {y : Yd} {R : Hp} {M : Int → Int} {F : List Int} {st lim : Int}
theorem fn_runs : FnOk X.K "free_runs" 207 := ⟨by rw [hX]; kernel_rfl, by rw [hX]; kernel_rfl⟩
theorem fn_sweep : FnOk X.K "sweep" 214 := ⟨by rw [hX]; kernel_rfl, by rw [hX]; kernel_rfl⟩
theorem sH_free : SetOk X.K 108 "free" := ⟨by rw [hX]; kernel_rfl, by rw [hX]; kernel_rfl, by rw [hX]; kernel_rfl, by rw [hX]; kernel_rfl⟩
theorem c_runs {Ls : Nat → List Int} {B : List Bk} {Q : Value → Hp → Prop} (S : HS 196 108 y R M F st lim H) (I : Inv M F Ls B st lim)
    (q : ∀ H' R' M' A t tf rl rs, Sub R R' → HS 196 108 y R' M' F st lim H' → SwA M B A M' st lim → R' t = some (.tup [.ref rl, .int (frd M B) tf]) → R' rl = some (.list rs) → All2 (RunTup R') rs (frees A) → Q (.ref t) H') :
    Spec X 5 (.ref 207) [.ref y.hp] H Q := by
  obtain ⟨t1, t2, fl, vs, h2, h3, h4, h5⟩ := S.hd
  have bl := b_len hX
  refine spec_fn (f := 207) ["heap"] (by rw [hX]; rfl) (by rw [hX]; rfl) (by rfl) (by rfl) (by rfl) (fun C => ?_)
  repeat tb_rel
  refine w_field (gH_memory hX) S.hp h2 (by rfl) (by rfl) ?_
  repeat tb_rel
  refine w_List ?_
  repeat tb_rel
  refine ⟨by rw [sizeLine_eq]; simp, fun rl hrl => ?_⟩
  have Rrl : R rl = none := S.fresh hrl
  have S₁ := S.new (ao := .list []) hrl
  have h2' : upd H rl (.list []) y.hd = some (.ns (heapF y.mm.a st lim fl t1 t2) 4) := by rw [upd_ne (fun q => by rw [← q, h2] at hrl; cases hrl)]; exact h2
  repeat tb_rel
  refine w_meth (mH_blocks hX) S₁.hp h2' (by rfl) ?_
  refine w_callK0 (mH_blocks hX).k ?_
  refine w_call (c_blocks hX S₁ I fun H₂ R₂ l vs₂ sub₂ S₂ hl nl al => ?_) (by decide)
  have hrl₂ : R₂ rl = some (.list []) := sub₂ _ _ (upd_self _ _ _)
  have hne : rl ≠ l := fun q => by rw [← q, upd_self] at nl; cases nl
  have Rl : R l = none := by have := nl; rwa [upd_ne (Ne.symm hne)] at this
  refine for_list (S₂.get hl) (.inr ⟨⟨_, _, _, rfl⟩, fun v hv => by obtain ⟨b, _, t, _, _, _, e, _⟩ := al.mem hv; exact ⟨t, e⟩⟩)
    (RunsJ 196 108 y R M F st lim B vs₂ rl)
    ⟨by rfl, by rfl, [], B, [], M, del R₂ l, [], st, 0, _, _, rfl, rfl, I.ti, ⟨rfl, fun _ h => (nomatch h), fun _ h => (nomatch h), fun _ h => (nomatch h), fun _ h => (nomatch h), fun _ _ => rfl, trivial⟩, fun c co e => ?_, S₂.del hl,
      al.mono (BkTup.mono (TupSub.del fun xs => by rw [hl]; intro e; cases e)), by rw [del_ne hne]; exact hrl₂, .nil, by rfl, by rfl, .inr ⟨fun _ h => (nomatch h), fun h => absurd rfl h⟩⟩ ?_ ?_
  · rw [del_ne (fun q => by subst q; rw [Rl] at e; cases e)]
    exact sub₂ _ _ (Sub.new Rrl _ _ e)
  · rintro i v h m H₃ hv ⟨gm, gr, P, Bs, A, M', R', rs, cur, bh, tf, tb, eB, rfl, tl, sw, sub, S₃, al₃, hrs, ar, gf, gb, hbh⟩
    obtain ⟨b, hb, t, ta, tn, dv, rfl, ht, hdv⟩ := al₃.get hv
    have eb : ∃ r, Bs = b :: r := by
      rw [eB, List.getElem?_append_right (Nat.le_refl _), Nat.sub_self] at hb
      cases Bs with
      | nil => simp at hb
      | cons c r => simp at hb; subst hb; exact ⟨r, rfl⟩
    obtain ⟨r, rfl⟩ := eb
    obtain ⟨rfl, tr⟩ := tl
    have ob := I.ok b (by rw [eB]; simp)
    obtain ⟨o1, o2, o3⟩ := ob.a
    have o4 := ob.n
    have o5 := ob.m
    obtain ⟨tm, hm⟩ := S₃.m.d
    have hread : M' ((b.a + 4) / 4) = M ((b.a + 4) / 4) := sw.m1 _ fun c hc _ => by
      have oc := I.ok c (by rw [eB]; exact List.mem_append_left _ hc)
      obtain ⟨c1, c2, c3⟩ := oc.a
      have c4 := oc.n
      have := (tiles_mid (by rw [← eB]; exact I.ti) (by rw [← eB]; exact I.pos)).2.2.1 c hc
      omega
    have hlen : rs.length ≤ 1000 := by
      have h1 := ar.len
      have h2 : (frees A).length ≤ A.length := List.length_filter_le _ _
      have h3 := tiles_len sw.ti fun c hc => by
        cases hd : c.d with
        | none => exact (sw.fr c hc hd).2.1
        | some d => exact (I.ok c (by rw [eB]; exact List.mem_append_left _ (sw.us c hc (by rw [hd]; simp)).1)).n
      have := I.s0
      omega
    refine w_unpack3 (S₃.get ht) ?_
    repeat tb_rel
    cases hbd : b.d with
    | none =>
      rw [hbd] at hdv
      have hdv : dv = .none := hdv
      subst hdv
      have hk : ¬ kp M b := fun h => h.1 hbd
      have efr : frd M (P ++ [b]) = frd M P := by rw [frd_snoc, if_neg (by rintro ⟨h, _⟩; exact h hbd)]; omega
      refine w_isNot (by rfl) ?_
      repeat tb_rel
      refine if_false ?_
      refine if_false ?_
      repeat tb_rel
      refine w_isNot (by rfl) ?_
      repeat tb_rel
      refine if_false ?_
      repeat tb_rel
      refine w_callB (by intro _ e; cases e) ?_ (by kernel_rfl) (by kernel_rfl)
      repeat tb_rel
      refine w_len (S₃.get hrs) (by omega) fun tq => ?_
      repeat tb_rel
      refine if_dec (fun hpos => ?_) (fun hpos => ?_)
      · repeat tb_rel
        refine if_beq (fun hbe => ?_) (fun hbe => ?_)
        · repeat tb_rel
          obtain ⟨A', c, rfl, hcd, hbc⟩ | ⟨_, hlt⟩ := hbh
          case inr => exact absurd (hlt (fun e => by rw [e] at ar; have := ar.len; simp only [List.length_nil] at this; omega)) (by omega)
          obtain ⟨sw', hca⟩ := sw.join hk hcd o4 o5
          rw [frees_snoc_free hcd] at ar
          obtain ⟨rs', vc, rfl, ar', tc, tca, tcn, rfl, htc⟩ := ar.unsnoc
          have htcl : tc ≠ rl := fun q => by rw [q, hrs] at htc; cases htc
          refine if_true ?_
          repeat tb_rel
          refine w_mList (S₃.get hrs) PySem.F.slot_list_pop PySem.F.type_list_pop ?_
          refine w_callB0 (by intro _ e; cases e) ?_
          refine w_pop (S₃.get hrs) (by rw [sizeLine_eq]; simp only [List.length_append, List.length_cons, List.length_nil] at hlen; omega) ?_
          have S₄ := S₃.set (ao := .list rs') hrs
          refine w_unpack2 (S₄.get (by rw [upd_ne htcl]; exact htc)) ?_
          repeat tb_rel
          refine w_mList (S₄.get (upd_self _ _ _)) PySem.F.slot_list_append PySem.F.type_list_append ?_
          refine w_callB (by intro _ e; cases e) ?_ (by kernel_rfl) (by kernel_rfl)
          repeat tb_rel
          refine w_Tuple ?_
          repeat tb_rel
          rename_i tsum
          refine ⟨by rw [sizeLine_eq]; simp, fun t₂ ht₂ => ?_⟩
          have S₅ := S₄.new (ao := .tup [.int c.a tca, .int (c.n + b.n) tsum]) ht₂
          have Rt := S₄.fresh ht₂
          have hne₂ : rl ≠ t₂ := fun q => by rw [← q, upd_self] at Rt; cases Rt
          have hrs₅ : upd (upd R' rl (.list rs')) t₂ (.tup [.int c.a tca, .int (c.n + b.n) tsum]) rl = some (.list rs') := by rw [upd_ne hne₂, upd_self]
          repeat tb_rel
          refine w_append (S₅.get hrs₅) (by rw [sizeLine_eq]; simp only [List.length_append, List.length_cons, List.length_nil] at hlen; omega) ?_
          have S₆ := S₅.set (ao := .list (rs' ++ [.ref t₂])) hrs₅
          have ts₀ : TupSub R' (upd R' rl (.list rs')) := TupSub.upd fun xs => by rw [hrs]; intro e; cases e
          have ts : TupSub R' (upd (upd (upd R' rl (.list rs')) t₂ (.tup [.int c.a tca, .int (c.n + b.n) tsum])) rl (.list (rs' ++ [.ref t₂]))) := (ts₀.trans (Sub.new Rt).tup).trans (TupSub.upd fun xs => by rw [hrs₅]; intro e; cases e)
          repeat tb_rel
          refine ⟨by with_unfolding_all assumption, by with_unfolding_all assumption, P ++ [b], r, _, M', _, rs' ++ [.ref t₂], b.a + b.n, b.a + b.n, _, _, by rw [eB]; simp, by simp, tr, sw', fun e eo he => ?_, S₆, al₃.mono (BkTup.mono ts), upd_self _ _ _, ?_, by rw [efr]; ktr_rel, by rfl, .inl ⟨A', _, rfl, rfl, rfl⟩⟩
          · have hr : e ≠ rl := fun q => by subst q; rw [Rrl] at he; cases he
            rw [upd_ne hr]
            refine Sub.new Rt _ _ ?_
            rw [upd_ne hr]; exact sub _ _ he
          · rw [frees_snoc_free rfl]
            exact (ar'.mono (RunTup.mono ts)).snoc ⟨t₂, tca, tsum, rfl, by rw [upd_ne (Ne.symm hne₂), upd_self]⟩
        · refine if_false ?_
          have hlast : ∀ l, A.getLast? = some l → l.d ≠ none := by
            rcases hbh with ⟨A', c, rfl, hcd, e⟩ | ⟨h, _⟩
            · exact absurd e hbe
            · exact h
          have sw' := sw.start hk rfl hlast ob.a o4 o5
          repeat tb_rel
          refine w_mList (S₃.get hrs) PySem.F.slot_list_append PySem.F.type_list_append ?_
          refine w_callB (by intro _ e; cases e) ?_ (by kernel_rfl) (by kernel_rfl)
          repeat tb_rel
          refine w_Tuple ?_
          repeat tb_rel
          refine ⟨by rw [sizeLine_eq]; simp, fun t₂ ht₂ => ?_⟩
          have S₄ := S₃.new (ao := .tup [.int b.a ta, .int b.n tn]) ht₂
          have Rt := S₃.fresh ht₂
          have hne₂ : rl ≠ t₂ := fun q => by rw [← q, hrs] at Rt; cases Rt
          have hrs₄ : upd R' t₂ (.tup [.int b.a ta, .int b.n tn]) rl = some (.list rs) := by rw [upd_ne hne₂]; exact hrs
          repeat tb_rel
          refine w_append (S₄.get hrs₄) (by rw [sizeLine_eq]; omega) ?_
          have S₅ := S₄.set (ao := .list (rs ++ [.ref t₂])) hrs₄
          have ts : TupSub R' (upd (upd R' t₂ (.tup [.int b.a ta, .int b.n tn])) rl (.list (rs ++ [.ref t₂]))) := (Sub.new Rt).tup.trans (TupSub.upd fun xs => by rw [hrs₄]; intro e; cases e)
          repeat tb_rel
          refine ⟨by with_unfolding_all assumption, by with_unfolding_all assumption, P ++ [b], r, _, M', _, rs ++ [.ref t₂], b.a + b.n, b.a + b.n, _, _, by rw [eB]; simp, by simp, tr, sw', fun c co e => ?_, S₅, al₃.mono (BkTup.mono ts), upd_self _ _ _, ?_, by rw [efr]; ktr_rel, by rfl, .inl ⟨A, _, rfl, rfl, rfl⟩⟩
          · rw [upd_ne (fun q => by subst q; rw [Rrl] at e; cases e)]; exact Sub.new Rt _ _ (sub _ _ e)
          · rw [frees_snoc_free rfl]
            exact (ar.mono (RunTup.mono ts)).snoc ⟨t₂, ta, tn, rfl, by rw [upd_ne (Ne.symm hne₂), upd_self]⟩
      · refine if_false ?_
        have hlast : ∀ l, A.getLast? = some l → l.d ≠ none := by
          rcases hbh with ⟨A', c, rfl, hcd, e⟩ | ⟨h, _⟩
          · rw [frees_snoc_free hcd] at ar
            have := ar.len
            simp only [List.length_append, List.length_cons, List.length_nil] at this
            exact absurd hpos (by omega)
          · exact h
        have sw' := sw.start hk rfl hlast ob.a o4 o5
        repeat tb_rel
        refine w_mList (S₃.get hrs) PySem.F.slot_list_append PySem.F.type_list_append ?_
        refine w_callB (by intro _ e; cases e) ?_ (by kernel_rfl) (by kernel_rfl)
        repeat tb_rel
        refine w_Tuple ?_
        repeat tb_rel
        refine ⟨by rw [sizeLine_eq]; simp, fun t₂ ht₂ => ?_⟩
        have S₄ := S₃.new (ao := .tup [.int b.a ta, .int b.n tn]) ht₂
        have Rt := S₃.fresh ht₂
        have hne₂ : rl ≠ t₂ := fun q => by rw [← q, hrs] at Rt; cases Rt
        have hrs₄ : upd R' t₂ (.tup [.int b.a ta, .int b.n tn]) rl = some (.list rs) := by rw [upd_ne hne₂]; exact hrs
        repeat tb_rel
        refine w_append (S₄.get hrs₄) (by rw [sizeLine_eq]; omega) ?_
        have S₅ := S₄.set (ao := .list (rs ++ [.ref t₂])) hrs₄
        have ts : TupSub R' (upd (upd R' t₂ (.tup [.int b.a ta, .int b.n tn])) rl (.list (rs ++ [.ref t₂]))) := (Sub.new Rt).tup.trans (TupSub.upd fun xs => by rw [hrs₄]; intro e; cases e)
        repeat tb_rel
        refine ⟨by with_unfolding_all assumption, by with_unfolding_all assumption, P ++ [b], r, _, M', _, rs ++ [.ref t₂], b.a + b.n, b.a + b.n, _, _, by rw [eB]; simp, by simp, tr, sw', fun c co e => ?_, S₅, al₃.mono (BkTup.mono ts), upd_self _ _ _, ?_, by rw [efr]; ktr_rel, by rfl, .inl ⟨A, _, rfl, rfl, rfl⟩⟩
        · rw [upd_ne (fun q => by subst q; rw [Rrl] at e; cases e)]; exact Sub.new Rt _ _ (sub _ _ e)
        · rw [frees_snoc_free rfl]
          exact (ar.mono (RunTup.mono ts)).snoc ⟨t₂, ta, tn, rfl, by rw [upd_ne (Ne.symm hne₂), upd_self]⟩
    | some d =>
      rw [hbd] at hdv
      obtain ⟨td, rfl⟩ : ∃ td, dv = .int d td := hdv
      refine w_isNot (by rfl) ?_
      repeat tb_rel
      refine if_true ?_
      repeat tb_rel
      refine w_meth (mM_word hX) S₃.m.a hm (by rfl) ?_
      refine w_callK (mM_word hX).k ?_ (by kernel_rfl) (by kernel_rfl)
      repeat tb_rel
      refine w_call (c_word hX S₃.m (by omega) (by omega) fun t => ?_) (by decide)
      rw [hread]
      repeat tb_rel
      refine if_bne (fun hmk => ?_) (fun hmk => ?_)
      · have hk : kp M b := ⟨by rw [hbd]; simp, hmk⟩
        have efr : frd M (P ++ [b]) = frd M P := by rw [frd_snoc, if_neg (by rintro ⟨_, h⟩; exact h hk)]; omega
        repeat tb_rel
        refine if_true ?_
        repeat tb_rel
        refine w_meth (mM_put hX) S₃.m.a hm (by rfl) ?_
        refine w_callK (mM_put hX).k ?_ (by kernel_rfl) (by kernel_rfl)
        repeat tb_rel
        refine w_call (c_putH hX S₃ (by omega) (by omega) fun H₄ S₄ => ?_) (by decide)
        repeat tb_rel
        refine ⟨by with_unfolding_all assumption, by with_unfolding_all assumption, P ++ [b], r, _, _, R', rs, b.a + b.n, bh, _, _, by rw [eB]; simp, by simp, tr, sw.keep rfl hk, sub, S₄, al₃, hrs, by rw [frees_snoc_used hk.1]; exact ar, by rw [efr]; ktr_rel, by with_unfolding_all assumption,
          .inr ⟨fun l hl => by rw [getLast_snoc] at hl; cases hl; exact hk.1, fun hne => ?_⟩⟩
        rw [frees_snoc_used hk.1] at hne
        rcases hbh with ⟨_, _, _, _, e⟩ | ⟨_, h⟩
        · omega
        · have := h hne; omega
      · have hk : ¬ kp M b := fun h => h.2 hmk
        have efr : frd M (P ++ [b]) = frd M P + b.n := by rw [frd_snoc, if_pos ⟨by rw [hbd]; simp, hk⟩]
        refine if_false ?_
        repeat tb_rel
        refine w_isNot (by rfl) ?_
        repeat tb_rel
        refine if_true ?_
        repeat tb_rel
        refine w_callB (by intro _ e; cases e) ?_ (by kernel_rfl) (by kernel_rfl)
        repeat tb_rel
        refine w_len (S₃.get hrs) (by omega) fun tq => ?_
        repeat tb_rel
        refine if_dec (fun hpos => ?_) (fun hpos => ?_)
        · repeat tb_rel
          refine if_beq (fun hbe => ?_) (fun hbe => ?_)
          · repeat tb_rel
            obtain ⟨A', c, rfl, hcd, hbc⟩ | ⟨_, hlt⟩ := hbh
            case inr => exact absurd (hlt (fun e => by rw [e] at ar; have := ar.len; simp only [List.length_nil] at this; omega)) (by omega)
            obtain ⟨sw', hca⟩ := sw.join hk hcd o4 o5
            rw [frees_snoc_free hcd] at ar
            obtain ⟨rs', vc, rfl, ar', tc, tca, tcn, rfl, htc⟩ := ar.unsnoc
            have htcl : tc ≠ rl := fun q => by rw [q, hrs] at htc; cases htc
            refine if_true ?_
            repeat tb_rel
            refine w_mList (S₃.get hrs) PySem.F.slot_list_pop PySem.F.type_list_pop ?_
            refine w_callB0 (by intro _ e; cases e) ?_
            refine w_pop (S₃.get hrs) (by rw [sizeLine_eq]; simp only [List.length_append, List.length_cons, List.length_nil] at hlen; omega) ?_
            have S₄ := S₃.set (ao := .list rs') hrs
            refine w_unpack2 (S₄.get (by rw [upd_ne htcl]; exact htc)) ?_
            repeat tb_rel
            refine w_mList (S₄.get (upd_self _ _ _)) PySem.F.slot_list_append PySem.F.type_list_append ?_
            refine w_callB (by intro _ e; cases e) ?_ (by kernel_rfl) (by kernel_rfl)
            repeat tb_rel
            refine w_Tuple ?_
            repeat tb_rel
            rename_i tsum
            refine ⟨by rw [sizeLine_eq]; simp, fun t₂ ht₂ => ?_⟩
            have S₅ := S₄.new (ao := .tup [.int c.a tca, .int (c.n + b.n) tsum]) ht₂
            have Rt := S₄.fresh ht₂
            have hne₂ : rl ≠ t₂ := fun q => by rw [← q, upd_self] at Rt; cases Rt
            have hrs₅ : upd (upd R' rl (.list rs')) t₂ (.tup [.int c.a tca, .int (c.n + b.n) tsum]) rl = some (.list rs') := by rw [upd_ne hne₂, upd_self]
            repeat tb_rel
            refine w_append (S₅.get hrs₅) (by rw [sizeLine_eq]; simp only [List.length_append, List.length_cons, List.length_nil] at hlen; omega) ?_
            have S₆ := S₅.set (ao := .list (rs' ++ [.ref t₂])) hrs₅
            have ts₀ : TupSub R' (upd R' rl (.list rs')) := TupSub.upd fun xs => by rw [hrs]; intro e; cases e
            have ts : TupSub R' (upd (upd (upd R' rl (.list rs')) t₂ (.tup [.int c.a tca, .int (c.n + b.n) tsum])) rl (.list (rs' ++ [.ref t₂]))) := (ts₀.trans (Sub.new Rt).tup).trans (TupSub.upd fun xs => by rw [hrs₅]; intro e; cases e)
            repeat tb_rel
            refine ⟨by with_unfolding_all assumption, by with_unfolding_all assumption, P ++ [b], r, _, M', _, rs' ++ [.ref t₂], b.a + b.n, b.a + b.n, _, _, by rw [eB]; simp, by simp, tr, sw', fun e eo he => ?_, S₆, al₃.mono (BkTup.mono ts), upd_self _ _ _, ?_, by rw [efr]; ktr_rel, by rfl, .inl ⟨A', _, rfl, rfl, rfl⟩⟩
            · have hr : e ≠ rl := fun q => by subst q; rw [Rrl] at he; cases he
              rw [upd_ne hr]
              refine Sub.new Rt _ _ ?_
              rw [upd_ne hr]; exact sub _ _ he
            · rw [frees_snoc_free rfl]
              exact (ar'.mono (RunTup.mono ts)).snoc ⟨t₂, tca, tsum, rfl, by rw [upd_ne (Ne.symm hne₂), upd_self]⟩
          · refine if_false ?_
            have hlast : ∀ l, A.getLast? = some l → l.d ≠ none := by
              rcases hbh with ⟨A', c, rfl, hcd, e⟩ | ⟨h, _⟩
              · exact absurd e hbe
              · exact h
            have sw' := sw.start hk rfl hlast ob.a o4 o5
            repeat tb_rel
            refine w_mList (S₃.get hrs) PySem.F.slot_list_append PySem.F.type_list_append ?_
            refine w_callB (by intro _ e; cases e) ?_ (by kernel_rfl) (by kernel_rfl)
            repeat tb_rel
            refine w_Tuple ?_
            repeat tb_rel
            refine ⟨by rw [sizeLine_eq]; simp, fun t₂ ht₂ => ?_⟩
            have S₄ := S₃.new (ao := .tup [.int b.a ta, .int b.n tn]) ht₂
            have Rt := S₃.fresh ht₂
            have hne₂ : rl ≠ t₂ := fun q => by rw [← q, hrs] at Rt; cases Rt
            have hrs₄ : upd R' t₂ (.tup [.int b.a ta, .int b.n tn]) rl = some (.list rs) := by rw [upd_ne hne₂]; exact hrs
            repeat tb_rel
            refine w_append (S₄.get hrs₄) (by rw [sizeLine_eq]; omega) ?_
            have S₅ := S₄.set (ao := .list (rs ++ [.ref t₂])) hrs₄
            have ts : TupSub R' (upd (upd R' t₂ (.tup [.int b.a ta, .int b.n tn])) rl (.list (rs ++ [.ref t₂]))) := (Sub.new Rt).tup.trans (TupSub.upd fun xs => by rw [hrs₄]; intro e; cases e)
            repeat tb_rel
            refine ⟨by with_unfolding_all assumption, by with_unfolding_all assumption, P ++ [b], r, _, M', _, rs ++ [.ref t₂], b.a + b.n, b.a + b.n, _, _, by rw [eB]; simp, by simp, tr, sw', fun c co e => ?_, S₅, al₃.mono (BkTup.mono ts), upd_self _ _ _, ?_, by rw [efr]; ktr_rel, by rfl, .inl ⟨A, _, rfl, rfl, rfl⟩⟩
            · rw [upd_ne (fun q => by subst q; rw [Rrl] at e; cases e)]; exact Sub.new Rt _ _ (sub _ _ e)
            · rw [frees_snoc_free rfl]
              exact (ar.mono (RunTup.mono ts)).snoc ⟨t₂, ta, tn, rfl, by rw [upd_ne (Ne.symm hne₂), upd_self]⟩
        · refine if_false ?_
          have hlast : ∀ l, A.getLast? = some l → l.d ≠ none := by
            rcases hbh with ⟨A', c, rfl, hcd, e⟩ | ⟨h, _⟩
            · rw [frees_snoc_free hcd] at ar
              have := ar.len
              simp only [List.length_append, List.length_cons, List.length_nil] at this
              exact absurd hpos (by omega)
            · exact h
          have sw' := sw.start hk rfl hlast ob.a o4 o5
          repeat tb_rel
          refine w_mList (S₃.get hrs) PySem.F.slot_list_append PySem.F.type_list_append ?_
          refine w_callB (by intro _ e; cases e) ?_ (by kernel_rfl) (by kernel_rfl)
          repeat tb_rel
          refine w_Tuple ?_
          repeat tb_rel
          refine ⟨by rw [sizeLine_eq]; simp, fun t₂ ht₂ => ?_⟩
          have S₄ := S₃.new (ao := .tup [.int b.a ta, .int b.n tn]) ht₂
          have Rt := S₃.fresh ht₂
          have hne₂ : rl ≠ t₂ := fun q => by rw [← q, hrs] at Rt; cases Rt
          have hrs₄ : upd R' t₂ (.tup [.int b.a ta, .int b.n tn]) rl = some (.list rs) := by rw [upd_ne hne₂]; exact hrs
          repeat tb_rel
          refine w_append (S₄.get hrs₄) (by rw [sizeLine_eq]; omega) ?_
          have S₅ := S₄.set (ao := .list (rs ++ [.ref t₂])) hrs₄
          have ts : TupSub R' (upd (upd R' t₂ (.tup [.int b.a ta, .int b.n tn])) rl (.list (rs ++ [.ref t₂]))) := (Sub.new Rt).tup.trans (TupSub.upd fun xs => by rw [hrs₄]; intro e; cases e)
          repeat tb_rel
          refine ⟨by with_unfolding_all assumption, by with_unfolding_all assumption, P ++ [b], r, _, M', _, rs ++ [.ref t₂], b.a + b.n, b.a + b.n, _, _, by rw [eB]; simp, by simp, tr, sw', fun c co e => ?_, S₅, al₃.mono (BkTup.mono ts), upd_self _ _ _, ?_, by rw [efr]; ktr_rel, by rfl, .inl ⟨A, _, rfl, rfl, rfl⟩⟩
          · rw [upd_ne (fun q => by subst q; rw [Rrl] at e; cases e)]; exact Sub.new Rt _ _ (sub _ _ e)
          · rw [frees_snoc_free rfl]
            exact (ar.mono (RunTup.mono ts)).snoc ⟨t₂, ta, tn, rfl, by rw [upd_ne (Ne.symm hne₂), upd_self]⟩
  · intro m H₃ hJ hl'
    obtain ⟨gm, gr, P, Bs, A, M', R', rs, cur, bh, tf, tb, eB, hP, tl, sw, sub, S₃, al₃, hrs, ar, gf, gb, hbh⟩ := hJ
    have R'l := S₃.fresh hl'
    have eBs : Bs = [] := by
      have h1 := al₃.len
      rw [eB, List.length_append] at h1
      exact List.eq_nil_of_length_eq_zero (by omega)
    subst eBs
    rw [List.append_nil] at eB
    subst eB
    cases tl
    have S₄ := S₃.new (ao := .list vs₂) hl'
    repeat tb_rel
    refine w_Tuple ?_
    repeat tb_rel
    refine ⟨by rw [sizeLine_eq]; simp, fun t ht => ?_⟩
    have S₅ := S₄.new (ao := .tup [.ref rl, .int (frd M B) tf]) ht
    have Rt := S₄.fresh ht
    refine q _ _ M' A t tf rl rs (sub.trans ((Sub.new R'l).trans (Sub.new Rt))) S₅ sw (upd_self _ _ _) (Sub.new Rt _ _ (Sub.new R'l _ _ hrs)) (ar.mono (RunTup.mono ((Sub.new R'l).trans (Sub.new Rt)).tup))
end
end
section
section
variable {X : Fx} {H : Hp} (hX : IsK X)
include hX
variable {y : Yd} {R : Hp} {M : Int → Int} {F : List Int} {st lim : Int}
theorem c_sweep {Ls : Nat → List Int} {B : List Bk} {Q : Value → Hp → Prop} (S : HS 196 108 y R M F st lim H) (I : Inv M F Ls B st lim)
    (q : ∀ H' R' M' F' Ls' A t, Sub R R' → HS 196 108 y R' M' F' st lim H' → Swept M B M' F' Ls' A st lim → Q (.int (frd M B) t) H') :
    Spec X 6 (.ref 214) [.ref y.hp] H Q := by
  have bl := b_len hX
  have br := b_range hX
  have nr := (fn_runs hX).n
  obtain ⟨tL, nL⟩ := g_LISTS hX
  refine spec_fn (f := 214) ["heap"] (by rw [hX]; rfl) (by rw [hX]; rfl) (by rfl) (by rfl) (by rfl) (fun C => ?_)
  repeat tb_rel
  refine w_callK (fn_runs hX).k ?_ (by kernel_rfl) (by kernel_rfl)
  repeat tb_rel
  refine w_call (c_runs hX S I fun H₁ R₁ M₁ A t tf rl rs sub S₁ sw ht hrs ar => ?_) (by decide)
  refine w_unpack2 (S₁.get ht) ?_
  repeat tb_rel
  refine w_List ?_
  repeat tb_rel
  rename_i tz
  refine ⟨by rw [sizeLine_eq]; simp, fun d hd => ?_⟩
  repeat tb_rel
  have S₂ := S₁.add (ao := .list [.int 0 tz]) hd
  refine w_mulL (upd_self _ _ _) (by decide) (by decide) (by show 1 * 4 ≤ _; decide) fun d₂ hd₂ => ?_
  have S₃ := S₂.add (ao := .list (List.replicate (Int.toNat 4) [.int 0 tz]).flatten) hd₂
  obtain ⟨t1, t2, fl, vs, h2, h3, h4, h5⟩ := S₃.hd
  repeat tb_rel
  refine w_reset S₃.hp h2 (by rfl) (by decide) (sH_free hX).s (sH_free hX).p (sH_free hX).t (sH_free hX).h ?_
  have S₄ := S₃.refree (F' := [0, 0, 0, 0]) h2 (upd_self _ _ _) (by
    have := S₂.fresh hd₂
    exact this) ⟨rfl, fun i k hk => by
      match i, hk with
      | 0, hk => cases hk; exact ⟨_, rfl⟩
      | 1, hk => cases hk; exact ⟨_, rfl⟩
      | 2, hk => cases hk; exact ⟨_, rfl⟩
      | 3, hk => cases hk; exact ⟨_, rfl⟩
      | n + 4, hk => simp at hk⟩
  repeat tb_rel
  refine w_callB (by intro _ e; cases e) ?_ (by kernel_rfl) (by kernel_rfl)
  repeat tb_rel
  refine w_callB (by intro _ e; cases e) ?_ (by kernel_rfl) (by kernel_rfl)
  repeat tb_rel
  have hz := ar.len
  have okA : ∀ c ∈ A, OkA c.a ∧ 16 ≤ c.n ∧ c.n % 16 = 0 := fun c hc => by
    cases hd : c.d with
    | none => exact sw.fr c hc hd
    | some d => have := I.ok c (sw.us c hc (by rw [hd]; simp)).1; exact ⟨this.a, this.n, this.m⟩
  have pos : ∀ c ∈ A, 0 < c.n := fun c hc => by have := (okA c hc).2.1; omega
  have bd := (tiles_bd sw.ti pos).2
  have s0 := I.s0
  have l1 := I.l1
  have hlen : rs.length ≤ 1000 := by
    have h2 : (frees A).length ≤ A.length := List.length_filter_le _ _
    have h3 := tiles_len sw.ti fun c hc => (okA c hc).2.1
    omega
  refine w_len (S₄.get hrs) (by omega) fun tq => ?_
  repeat tb_rel
  refine w_range3 (by decide) noPylong_m1 fun r hr => ?_
  refine for_range (upd_self _ _ _) (r_small (by omega) (by omega) (by omega) (by omega) (.inl rfl) (by decide)) rs.length (by rw [show (-1 : Int) = -1 from rfl, rs_down (by omega)]; omega)
    (fun i m H => m "heap" = some (.ref y.hp) ∧ m "runs" = some (.ref rl) ∧ m "freed" = some (.int (frd M B) tf) ∧ ∃ G₁ G₂ M₂ F₂ Ls₂, frees A = G₁ ++ G₂ ∧ G₁.length = rs.length - i ∧ HS 196 108 y R₁ M₂ F₂ st lim H ∧ SwF M₁ G₂ M₂ F₂ Ls₂)
    ⟨by rfl, by rfl, by rfl, frees A, [], M₁, _, _, by simp, by omega, S₄.add hr, SwF.nil M₁⟩ (fun i ti h m H hi hJ => ?_) (fun m H hJ => ?_) (by rfl) (by rfl) (by rfl)
  · obtain ⟨gh, gr, gf, G₁, G₂, M₂, F₂, Ls₂, eG, hG, S₅, sf⟩ := hJ
    have hne : G₁ ≠ [] := fun e => by rw [e] at hG; simp only [List.length_nil] at hG; omega
    obtain ⟨G₁', g, rfl⟩ : ∃ G' g, G₁ = G' ++ [g] := ⟨G₁.dropLast, G₁.getLast hne, (List.dropLast_concat_getLast hne).symm⟩
    have hidx : (frees A)[rs.length - 1 - i]? = some g := by
      rw [eG]
      simp only [List.length_append, List.length_cons, List.length_nil] at hG
      rw [List.append_assoc, List.getElem?_append_right (by omega)]
      have : rs.length - 1 - i - G₁'.length = 0 := by omega
      rw [this]; rfl
    obtain ⟨v, hv, tg, tga, tgn, rfl, htg⟩ := ar.getR hidx
    have hgm : g ∈ frees A := by rw [eG]; simp
    obtain ⟨hgA, hgd⟩ := mem_frees.mp hgm
    obtain ⟨⟨o1, o2, o3⟩, o4, o5⟩ := okA g hgA
    have hgb := bd g hgA
    obtain ⟨t1', t2', fl', vs', j2, j3, j4, j5⟩ := S₅.hd
    have hidx' : ((rs.length : Int) - 1 + (i : Int) * -1).toNat = rs.length - 1 - i := by omega
    repeat tb_rel
    refine w_meth (mH_put_free hX) S₅.hp j2 (by rfl) ?_
    refine w_callK (mH_put_free hX).k ?_ (by kernel_rfl) (by kernel_rfl)
    repeat tb_rel
    refine w_subL (S₅.get hrs) (by omega) (by omega) (by rw [hidx']; exact hv) ?_ (by with_unfolding_all rfl)
    repeat tb_rel
    refine w_subT (S₅.get htg) (by decide) (by decide) (by rfl) ?_ (by with_unfolding_all rfl)
    repeat tb_rel
    refine w_subL (S₅.get hrs) (by omega) (by omega) (by rw [hidx']; exact hv) ?_ (by with_unfolding_all rfl)
    repeat tb_rel
    refine w_subT (S₅.get htg) (by decide) (by decide) (by rfl) ?_ (by with_unfolding_all rfl)
    repeat tb_rel
    refine w_call (c_putfree hX S₅ sf.fl.len (by omega) (by omega) fun H₆ S₆ => ?_) (by decide)
    obtain ⟨Ls₃, sf'⟩ := sf.cons (g := g) ⟨o1, o2, o3⟩ o4 o5 (by omega) (frees_apart sw.ti pos eG) (fun c hc => (okA c (mem_frees.mp (by rw [eG]; exact List.mem_append_right _ hc)).1).1)
    repeat tb_rel
    exact ⟨gh, gr, gf, G₁', g :: G₂, _, _, Ls₃, by rw [eG]; simp, by simp only [List.length_append, List.length_cons, List.length_nil] at hG; omega, S₆, sf'⟩
  · obtain ⟨gh, gr, gf, G₁, G₂, M₂, F₂, Ls₂, eG, hG, S₅, sf⟩ := hJ
    have : G₁ = [] := List.eq_nil_of_length_eq_zero (by omega)
    subst this
    rw [List.nil_append] at eG
    subst eG
    repeat tb_rel
    exact q _ R₁ M₂ F₂ Ls₂ A _ sub S₅ (swept I sw sf)
end
end
section
section
variable {X : Fx} {H : Hp} (hX : IsK X)
include hX
theorem fn_pick : FnOk X.K "_law_pick" 221 := ⟨by rw [hX]; kernel_rfl, by rw [hX]; kernel_rfl⟩
theorem fn_area : FnOk X.K "_law_area" 226 := ⟨by rw [hX]; kernel_rfl, by rw [hX]; kernel_rfl⟩
theorem fn_lblock : FnOk X.K "_law_block" 233 := ⟨by rw [hX]; kernel_rfl, by rw [hX]; kernel_rfl⟩
theorem fn_Memory : FnOk X.K "Memory" 196 := ⟨by rw [hX]; kernel_rfl, by rw [hX]; kernel_rfl⟩
theorem fn_Heap : FnOk X.K "Heap" 108 := ⟨by rw [hX]; kernel_rfl, by rw [hX]; kernel_rfl⟩
theorem sM_size : SetOk X.K 196 "size" := ⟨by rw [hX]; kernel_rfl, by rw [hX]; kernel_rfl, by rw [hX]; kernel_rfl, by rw [hX]; kernel_rfl⟩
theorem sM_words : SetOk X.K 196 "words" := ⟨by rw [hX]; kernel_rfl, by rw [hX]; kernel_rfl, by rw [hX]; kernel_rfl, by rw [hX]; kernel_rfl⟩
theorem sH_memory : SetOk X.K 108 "memory" := ⟨by rw [hX]; kernel_rfl, by rw [hX]; kernel_rfl, by rw [hX]; kernel_rfl, by rw [hX]; kernel_rfl⟩
theorem sH_start : SetOk X.K 108 "start" := ⟨by rw [hX]; kernel_rfl, by rw [hX]; kernel_rfl, by rw [hX]; kernel_rfl, by rw [hX]; kernel_rfl⟩
theorem sH_limit : SetOk X.K 108 "limit" := ⟨by rw [hX]; kernel_rfl, by rw [hX]; kernel_rfl, by rw [hX]; kernel_rfl, by rw [hX]; kernel_rfl⟩
theorem c_pick {hand cl : Addr} {R : Hp} {n : Int} {tn : Tok} {Q : Value → Hp → Prop} (hh : HandIs hand cl R) (sub : Sub R H) (n1 : 1 ≤ n) (n2 : n ≤ 1000)
    (q : ∀ k t L, 0 ≤ k → k < n → HandIs hand cl (upd R hand (.list L)) → Q (.int k t) (upd H hand (.list L))) : Spec X 1 (.ref 221) [.ref hand, .int n tn] H Q := by
  obtain ⟨xs, L, hL, hv, hne⟩ := hh
  obtain ⟨i, d, s, t1, t2, t3, rfl, i0, i1, d0, s0, s1⟩ := hv.h
  have bl := b_len hX
  have hH := sub _ _ hL
  have hC := sub _ _ hv.c
  have hx := hv.l
  have nd : Builtin.divisionGoesByPylong d n = false := noPylong_of (by omega) (by omega)
  refine spec_fn (f := 221) ["hand", "limit"] (by rw [hX]; rfl) (by rw [hX]; rfl) (by rfl) (by rfl) (by rfl) (fun C => ?_)
  repeat tb_rel
  refine w_subL hH (by decide) (by decide) (by rfl) ?_ (by with_unfolding_all rfl)
  repeat tb_rel
  refine if_beq (fun hd => ?_) (fun hd => ?_)
  · repeat tb_rel
    refine w_subL hH (by decide) (by decide) (by rfl) ?_ (by with_unfolding_all rfl)
    repeat tb_rel
    refine w_callB (by intro _ e; cases e) ?_ (by kernel_rfl) (by kernel_rfl)
    repeat tb_rel
    refine w_subL hH (by decide) (by decide) (by rfl) ?_ (by with_unfolding_all rfl)
    repeat tb_rel
    refine w_len hC (by omega) fun tq => ?_
    repeat tb_rel
    refine if_beq (fun hi => ?_) (fun hi => ?_)
    · repeat tb_rel
      refine w_subL hH (by decide) (by decide) (by rfl) ?_ (by with_unfolding_all rfl)
      repeat tb_rel
      refine w_mul (fun _ => ?_) (.of_right (by decide))
      repeat tb_rel
      refine w_fmod (fun ts => ?_) (by decide)
      rw [Int.fmod_eq_emod_of_nonneg _ (by decide)]
      repeat tb_rel
      refine w_lset hH (by decide) (by decide) (by simp) ?_
      repeat tb_rel
      refine w_subL (upd_self _ _ _) (by decide) (by decide) (by rfl) ?_ (by with_unfolding_all rfl)
      repeat tb_rel
      refine w_fdiv (fun _ => ?_) (by decide) (noPylong_of (by decide) (by decide))
      repeat tb_rel
      refine w_fmod (fun tk => ?_) (by omega)
      rw [Int.fmod_eq_emod_of_nonneg _ (by omega)]
      exact q _ tk _ (Int.emod_nonneg _ (by omega)) (Int.emod_lt_of_pos _ (by omega)) (HandIs.turn hL hv hne i d (s * 48271 % 2147483647) t1 t2 ts rfl i0 i1 d0 (Int.emod_nonneg _ (by decide)) (Int.emod_lt_of_pos _ (by decide)))
    · have hlt : i.toNat < xs.length := by omega
      obtain ⟨fg, tf, hfg⟩ := hv.i _ (List.getElem_mem hlt)
      have hget : xs[i.toNat]? = some (.int fg tf) := by rw [List.getElem?_eq_getElem hlt, hfg]
      repeat tb_rel
      refine w_subL hH (by decide) (by decide) (by rfl) ?_ (by with_unfolding_all rfl)
      repeat tb_rel
      refine w_subL hH (by decide) (by decide) (by rfl) ?_ (by with_unfolding_all rfl)
      refine w_subL hC i0 (by omega) hget ?_ (by with_unfolding_all rfl)
      repeat tb_rel
      refine w_subL hH (by decide) (by decide) (by rfl) ?_ (by with_unfolding_all rfl)
      repeat tb_rel
      refine w_lset hH (by decide) (by decide) (by simp) ?_
      repeat tb_rel
      refine if_dec (fun hp => ?_) (fun hp => ?_)
      · repeat tb_rel
        refine w_lset (upd_self _ _ _) (by decide) (by decide) (by simp) ?_
        rw [upd_upd]
        repeat tb_rel
        refine w_subL (upd_self _ _ _) (by decide) (by decide) (by rfl) ?_ (by with_unfolding_all rfl)
        repeat tb_rel
        refine w_fmod (fun tk => ?_) (by omega)
        rw [Int.fmod_eq_emod_of_nonneg _ (by omega)]
        repeat tb_rel
        refine w_subL (upd_self _ _ _) (by decide) (by decide) (by rfl) ?_ (by with_unfolding_all rfl)
        repeat tb_rel
        refine w_fdiv (fun td => ?_) (by omega) (noPylong_of (by omega) (by omega))
        rw [Int.fdiv_eq_ediv_of_nonneg _ (by omega)]
        repeat tb_rel
        refine w_lset (upd_self _ _ _) (by decide) (by decide) (by simp) ?_
        rw [upd_upd]
        repeat tb_rel
        exact q _ tk _ (Int.emod_nonneg _ (by omega)) (Int.emod_lt_of_pos _ (by omega)) (HandIs.turn hL hv hne (i + 1) (fg / n) s _ td t3 rfl (by omega) (by omega) (Int.ediv_nonneg (by omega) (by omega)) s0 s1)
      · repeat tb_rel
        refine w_lset (upd_self _ _ _) (by decide) (by decide) (by simp) ?_
        rw [upd_upd]
        repeat tb_rel
        refine w_subL (upd_self _ _ _) (by decide) (by decide) (by rfl) ?_ (by with_unfolding_all rfl)
        repeat tb_rel
        refine w_fmod (fun tk => ?_) (by omega)
        rw [Int.fmod_eq_emod_of_nonneg _ (by omega)]
        repeat tb_rel
        refine w_subL (upd_self _ _ _) (by decide) (by decide) (by rfl) ?_ (by with_unfolding_all rfl)
        repeat tb_rel
        refine w_fdiv (fun td => ?_) (by omega) (noPylong_of (by omega) (by omega))
        rw [Int.fdiv_eq_ediv_of_nonneg _ (by omega)]
        repeat tb_rel
        refine w_lset (upd_self _ _ _) (by decide) (by decide) (by simp) ?_
        rw [upd_upd]
        repeat tb_rel
        exact q _ tk _ (Int.emod_nonneg _ (by omega)) (Int.emod_lt_of_pos _ (by omega)) (HandIs.turn hL hv hne (i + 1) (-fg / n) s _ td t3 rfl (by omega) (by omega) (Int.ediv_nonneg (by omega) (by omega)) s0 s1)
  · repeat tb_rel
    refine w_subL hH (by decide) (by decide) (by rfl) ?_ (by with_unfolding_all rfl)
    repeat tb_rel
    refine w_fmod (fun tk => ?_) (by omega)
    rw [Int.fmod_eq_emod_of_nonneg _ (by omega)]
    repeat tb_rel
    refine w_subL hH (by decide) (by decide) (by rfl) ?_ (by with_unfolding_all rfl)
    repeat tb_rel
    refine w_fdiv (fun td => ?_) (by omega) nd
    rw [Int.fdiv_eq_ediv_of_nonneg _ (by omega)]
    repeat tb_rel
    refine w_lset hH (by decide) (by decide) (by simp) ?_
    repeat tb_rel
    exact q _ tk _ (Int.emod_nonneg _ (by omega)) (Int.emod_lt_of_pos _ (by omega)) (HandIs.turn hL hv hne i (d / n) s t1 td t3 rfl i0 i1 (Int.ediv_nonneg d0 (by omega)) s0 s1)
theorem c_lblock {r : Int} {t : Tok} {Q : Value → Hp → Prop} (q : ∀ t, Q (.int (bsz r) t) H) : Spec X 1 (.ref 233) [.int r t] H Q := by
  refine spec_fn (f := 233) ["wide"] (by rw [hX]; rfl) (by rw [hX]; rfl) (by rfl) (by rfl) (by rfl) (fun C => ?_)
  repeat tb_rel
  refine w_fdiv (fun _ => ?_) (by decide) (noPylong_of (by decide) (by decide))
  repeat tb_rel
  refine w_mul (fun t => ?_) (.of_right (by decide))
  have e : -(-(r + 8)).fdiv 16 * 16 = bsz r := by rw [Int.fdiv_eq_ediv_of_nonneg _ (by decide)]; unfold bsz; omega
  rw [e]
  exact q t
theorem c_memory {t : Tok} {Q : Value → Hp → Prop} (q : ∀ y H', MS 196 y H (fun _ => 0) H' → Q (.ref y.a) H') : Spec X 3 (.ref 196) [.int 8192 t] H Q := by
  refine spec_class (Cl := 196) (fI := 158) (by rw [hX]; kernel_rfl) (by rw [hX]; kernel_rfl) (by rw [hX]; kernel_rfl) fun x dx hx hdx hne => ?_
  refine spec_fn (f := 158) ["self", "size"] (by rw [hX]; rfl) (by rw [hX]; rfl) (by rfl) (by rfl) (by rfl) (fun C => ?_)
  have e1 : ∀ ao, upd (upd H dx ao) x (.inst 196 dx) dx = some ao := fun ao => by rw [upd_ne (Ne.symm hne), upd_self]
  repeat tb_rel
  refine w_set (upd_self _ _ _) (e1 _) (by decide) (sM_size hX).s (sM_size hX).p (sM_size hX).t (sM_size hX).h ?_
  repeat tb_rel
  refine w_Dict fun d hd => ?_
  have nx : d ≠ x := fun q => by subst q; rw [upd_ne hne, upd_self] at hd; cases hd
  have nd : d ≠ dx := fun q => by subst q; rw [upd_self] at hd; cases hd
  have hd' : H d = none := by rw [upd_ne nd, upd_ne nx, upd_ne nd] at hd; exact hd
  repeat tb_rel
  refine w_set (x := x) (by rw [upd_ne (Ne.symm nx), upd_ne hne, upd_self]) (by rw [upd_ne (Ne.symm nd), upd_self]) (by decide) (sM_words hX).s (sM_words hX).p (sM_words hX).t (sM_words hX).h ?_
  repeat tb_rel
  refine ⟨rfl, q ⟨x, dx, d⟩ _ ⟨?_, ⟨t, upd_self _ _ _⟩, ⟨fun _ => none, ?_, fun _ _ => rfl, fun _ _ h => nomatch h⟩, fun b ao e => ?_⟩⟩
  · show upd _ dx _ x = _
    rw [upd_ne hne, upd_ne (Ne.symm nx), upd_ne hne, upd_self]
  · show upd _ dx _ d = _
    rw [upd_ne nd, upd_self]
  · have b1 : b ≠ x := fun q => by subst q; rw [hx] at e; cases e
    have b2 : b ≠ dx := fun q => by subst q; rw [hdx] at e; cases e
    have b3 : b ≠ d := fun q => by subst q; rw [hd'] at e; cases e
    exact ⟨by rw [upd_ne b2, upd_ne b3, upd_ne b2, upd_ne b1, upd_ne b2]; exact e, b1, b2, b3⟩
end
end
section
section
variable {X : Fx} {H : Hp} (hX : IsK X)
include hX
theorem c_heap {mm : Mm} {R : Hp} {M : Int → Int} {st lim : Int} {t1 t2 : Tok} {Q : Value → Hp → Prop} (S : MS 196 mm R M H) (h0 : 1024 ≤ st) (h1 : st % 16 = 0) (h2 : lim ≤ 8192) (h3 : st + 16 ≤ lim) (h4 : lim % 16 = 0)
    (q : ∀ hp hd H' M' F' Ls', HS 196 108 ⟨mm, hp, hd⟩ R M' F' st lim H' → Inv M' F' Ls' [⟨st, lim - st, none⟩] st lim → (∀ k, k < 256 → M' k = M k) → Q (.ref hp) H') : Spec X 5 (.ref 108) [.ref mm.a, .int st t1, .int lim t2] H Q := by
  refine spec_class (Cl := 108) (fI := 49) (by rw [hX]; kernel_rfl) (by rw [hX]; kernel_rfl) (by rw [hX]; kernel_rfl) fun x dx hx hdx hne => ?_
  obtain ⟨tL, nL⟩ := g_LISTS hX
  refine spec_fn (f := 49) ["self", "memory", "start", "limit"] (by rw [hX]; rfl) (by rw [hX]; rfl) (by rfl) (by rfl) (by rfl) (fun C => ?_)
  have e1 : ∀ ao, upd (upd H dx ao) x (.inst 108 dx) dx = some ao := fun ao => by rw [upd_ne (Ne.symm hne), upd_self]
  repeat tb_rel
  refine w_set (upd_self _ _ _) (e1 _) (by decide) (sH_memory hX).s (sH_memory hX).p (sH_memory hX).t (sH_memory hX).h ?_
  repeat tb_rel
  refine w_set (x := x) (by rw [upd_ne hne, upd_self]) (upd_self _ _ _) (by decide) (sH_start hX).s (sH_start hX).p (sH_start hX).t (sH_start hX).h ?_
  rw [upd_upd]
  repeat tb_rel
  refine w_set (x := x) (by rw [upd_ne hne, upd_self]) (upd_self _ _ _) (by decide) (sH_limit hX).s (sH_limit hX).p (sH_limit hX).t (sH_limit hX).h ?_
  rw [upd_upd]
  repeat tb_rel
  refine w_List ?_
  repeat tb_rel
  rename_i tz
  refine ⟨by rw [sizeLine_eq]; simp, fun d hd => ?_⟩
  repeat tb_rel
  refine w_mulL (upd_self _ _ _) (by decide) (by decide) (by show 1 * 4 ≤ _; decide) fun fl hfl => ?_
  have f1 : fl ≠ d := fun q => by subst q; rw [upd_self] at hfl; cases hfl
  rw [upd_ne f1] at hfl
  have f2 : fl ≠ dx := fun q => by subst q; rw [upd_self] at hfl; cases hfl
  rw [upd_ne f2] at hfl
  have f3 : fl ≠ x := fun q => by subst q; rw [upd_self] at hfl; cases hfl
  rw [upd_ne f3, upd_ne f2] at hfl
  have d1 : d ≠ dx := fun q => by subst q; rw [upd_self] at hd; cases hd
  rw [upd_ne d1] at hd
  have d2 : d ≠ x := fun q => by subst q; rw [upd_self] at hd; cases hd
  rw [upd_ne d2, upd_ne d1] at hd
  repeat tb_rel
  refine w_set (x := x) (by rw [upd_ne (Ne.symm f3), upd_ne (Ne.symm d2), upd_ne hne, upd_self]) (by rw [upd_ne (Ne.symm f2), upd_ne (Ne.symm d1), upd_self]) (by decide) (sH_free hX).s (sH_free hX).p (sH_free hX).t (sH_free hX).h ?_
  have S' : HS 196 108 ⟨mm, x, dx⟩ R M [0, 0, 0, 0] st lim (upd (upd (upd (upd (upd (upd H dx (.ns (fun _ => none) 0)) x (.inst 108 dx)) dx (.ns (setm (setm (setm (fun _ => none) "memory" (.ref mm.a)) "start" (.int st t1)) "limit" (.int lim t2)) 3)) d (.list [.int 0 tz])) fl (.list (List.replicate (Int.toNat 4) [.int 0 tz]).flatten)) dx (.ns (heapF mm.a st lim fl t1 t2) 4)) := by
    have keep : ∀ b, b ≠ dx → b ≠ x → b ≠ d → b ≠ fl → (upd (upd (upd (upd (upd (upd H dx (.ns (fun _ => none) 0)) x (.inst 108 dx)) dx (.ns (setm (setm (setm (fun _ => none) "memory" (.ref mm.a)) "start" (.int st t1)) "limit" (.int lim t2)) 3)) d (.list [.int 0 tz])) fl (.list (List.replicate (Int.toNat 4) [.int 0 tz]).flatten)) dx (.ns (heapF mm.a st lim fl t1 t2) 4)) b = H b := fun b b1 b2 b3 b4 => by
      rw [upd_ne b1, upd_ne b4, upd_ne b3, upd_ne b1, upd_ne b2, upd_ne b1]
    have off : ∀ b ao, H b = some ao → b ≠ dx ∧ b ≠ x ∧ b ≠ d ∧ b ≠ fl := fun b ao e =>
      ⟨fun q => (by subst q; rw [hdx] at e; cases e), fun q => (by subst q; rw [hx] at e; cases e), fun q => (by subst q; rw [hd] at e; cases e), fun q => (by subst q; rw [hfl] at e; cases e)⟩
    have kk : ∀ b ao, H b = some ao → (upd (upd (upd (upd (upd (upd H dx (.ns (fun _ => none) 0)) x (.inst 108 dx)) dx (.ns (setm (setm (setm (fun _ => none) "memory" (.ref mm.a)) "start" (.int st t1)) "limit" (.int lim t2)) 3)) d (.list [.int 0 tz])) fl (.list (List.replicate (Int.toNat 4) [.int 0 tz]).flatten)) dx (.ns (heapF mm.a st lim fl t1 t2) 4)) b = some ao := fun b ao e => by
      obtain ⟨b1, b2, b3, b4⟩ := off b ao e; rw [keep b b1 b2 b3 b4]; exact e
    refine ⟨⟨kk _ _ S.a, ?_, ?_, fun b ao e => ?_⟩, ?_, ⟨t1, t2, fl, (List.replicate (Int.toNat 4) [.int 0 tz]).flatten, upd_self _ _ _, ?_, ⟨rfl, fun i k hk => ?_⟩, S.fresh hfl⟩, S.fresh hx, S.fresh hdx, by decide⟩
    · obtain ⟨t, e⟩ := S.d; exact ⟨t, kk _ _ e⟩
    · obtain ⟨g, e, w⟩ := S.w; exact ⟨g, kk _ _ e, w⟩
    · obtain ⟨e1, e2⟩ := S.r b ao e; exact ⟨kk _ _ e1, e2⟩
    · show upd _ dx _ x = _
      rw [upd_ne hne, upd_ne (Ne.symm f3), upd_ne (Ne.symm d2), upd_ne hne, upd_self]
    · rw [upd_ne f2, upd_self]
    · match i, hk with
      | 0, hk => cases hk; exact ⟨_, rfl⟩
      | 1, hk => cases hk; exact ⟨_, rfl⟩
      | 2, hk => cases hk; exact ⟨_, rfl⟩
      | 3, hk => cases hk; exact ⟨_, rfl⟩
      | n + 4, hk => simp at hk
  obtain ⟨a1, a2, fl', vs', j2, j3, j4, j5⟩ := S'.hd
  repeat tb_rel
  refine if_dec (fun hlt => ?_) (fun hlt => by omega)
  repeat tb_rel
  refine w_meth (mH_put_free hX) S'.hp j2 (by rfl) ?_
  refine w_callK (mH_put_free hX).k ?_ (by kernel_rfl) (by kernel_rfl)
  repeat tb_rel
  refine w_call (c_putfree hX S' rfl (by omega) (by omega) fun H₂ S₂ => ?_) (by decide)
  obtain ⟨Ls', sf⟩ := (SwF.nil M).cons (g := ⟨st, lim - st, none⟩) ⟨h0, by show st + 16 ≤ 8192; omega, h1⟩ (by show 16 ≤ lim - st; omega) (by show (lim - st) % 16 = 0; omega) (by show st + (lim - st) ≤ 8192; omega) (fun _ h => (nomatch h)) (fun _ h => (nomatch h))
  repeat tb_rel
  refine ⟨rfl, q _ _ _ _ _ Ls' S₂ (inv_one sf h0 h1 h2 h3 h4) fun k hk => sf.m k fun c hc => ?_⟩
  rw [List.mem_singleton.mp hc]
  exact ⟨by show k ≠ st / 4; omega, by show k ≠ (st + 4) / 4; omega⟩
end
end
section
section
variable {X : Fx} {H : Hp} (hX : IsK X)
include hX
theorem c_area {hand cl : Addr} {R : Hp} {room : Int} {tr : Tok} {Q : Value → Hp → Prop} (hh : HandIs hand cl R) (sub : Sub R H) (r1 : 1 ≤ room) (r2 : room ≤ 40)
    (q : ∀ y R' M F Ls kl ks kinds t H', HS 196 108 y R' M F 1024 (1024 + 16 * room) H' → Inv M F Ls [⟨1024, 16 * room, none⟩] 1024 (1024 + 16 * room) → R' t = some (.tup [.ref y.hp, .ref kl]) → R' kl = some (.list ks) → All2 (KindIs R') ks kinds →
      1 ≤ kinds.length → kinds.length ≤ 4 → KindsOk M kinds → HandIs hand cl R' → SubX hand R R' → kl ≠ hand → kl ≠ cl → Q (.ref t) H') : Spec X 6 (.ref 226) [.ref hand, .int room tr] H Q := by
  have np := (fn_pick hX).n
  have nM := (fn_Memory hX).n
  have nH := (fn_Heap hX).n
  have br := b_range hX
  have bl := b_len hX
  refine spec_defC (f := 226) (x := "hand") (v := .ref hand) (binds := [("hand", .ref hand), ("room", .int room tr)]) (m := fun y => if y = "room" then some (.int room tr) else none) (by rw [hX]; rfl) (by rw [hX]; rfl) (by rfl) (by intro k; rfl)
    (by
      intro k z hz
      simp only [List.mem_cons, List.not_mem_nil, or_false] at hz
      rcases hz with rfl | rfl
      · exact .inr ⟨by kernel_rfl, by rfl⟩
      · exact .inl (by kernel_rfl)) (by intro L; with_unfolding_all rfl) (by intro L; with_unfolding_all rfl) (fun C c hc => ?_)
  have S₀ : Sub R (upd H c (.cell (some (.ref hand)))) := fun b ao e => by rw [upd_ne (fun q => by subst q; rw [sub _ _ e] at hc; cases hc)]; exact sub _ _ e
  have Rc : R c = none := by
    cases e : R c with
    | none => rfl
    | some ao => rw [sub _ _ e] at hc; cases hc
  repeat tb_rel
  refine w_callK (fn_Memory hX).k ?_ (by kernel_rfl) (by kernel_rfl)
  repeat tb_rel
  refine w_call (c_memory hX fun mm H₁ S₁ => ?_) (by decide)
  have S₁ : MS 196 mm (upd R c (.cell (some (.ref hand)))) (fun _ => 0) H₁ := S₁.less fun b ao e => by
    by_cases q : b = c
    · subst q; rw [upd_self] at e ⊢; exact e
    · rw [upd_ne q] at e; exact S₀ b ao e
  repeat tb_rel
  refine w_List ?_
  repeat tb_rel
  refine ⟨by rw [sizeLine_eq]; simp, fun kl hkl => ?_⟩
  have S₂ := S₁.new (ao := .list []) hkl
  have Rkl := S₁.fresh hkl
  generalize hR₂ : upd (upd R c (.cell (some (.ref hand)))) kl (.list []) = R₂ at S₂
  have sx₀ : Sub R R₂ := by subst hR₂; exact (Sub.new Rc).trans (Sub.new Rkl)
  have hh₂ : HandIs hand cl R₂ := hh.sub sx₀
  have hkl₂ : R₂ kl = some (.list []) := by subst hR₂; exact upd_self _ _ _
  obtain ⟨Lh, hLh⟩ := hh.is
  have nkl : kl ≠ hand := fun q => by rw [q] at Rkl; have := Sub.new (ao := .cell (some (.ref hand))) Rc _ _ hLh; rw [this] at Rkl; cases Rkl
  have ncl : kl ≠ cl := fun q => by obtain ⟨L, e⟩ := hh.cs; rw [q] at Rkl; have := Sub.new (ao := .cell (some (.ref hand))) Rc _ _ e; rw [this] at Rkl; cases Rkl
  have hc₂ : R₂ c = some (.cell (some (.ref hand))) := by subst hR₂; exact Sub.new Rkl _ _ (upd_self _ _ _)
  have nc : c ≠ hand := fun q => by rw [q, hLh] at Rc; cases Rc
  have hcH := S₂.get hc₂
  repeat tb_rel
  refine w_callB (by intro _ e; cases e) ?_ (by kernel_rfl) (by kernel_rfl)
  repeat tb_rel
  refine w_callK (fn_pick hX).k ?_ (by kernel_rfl) (by kernel_rfl)
  repeat tb_rel
  refine w_call (c_pick hX hh₂ (fun b ao e => S₂.get e) (by decide) (by decide) fun k0 tk L₃ k1 k2 hh₃ => ?_) (by decide)
  have S₃ := S₂.set (ao := .list L₃) (hh₂.is.choose_spec)
  repeat tb_rel
  refine w_range1 fun r hr => ?_
  have S₄ := S₃.add (ao := .rng 0 (1 + k0) 1) hr
  have sx₃ : SubX hand R₂ (upd R₂ hand (.list L₃)) := SubX.upd
  generalize upd R₂ hand (.list L₃) = R₃ at *
  have kb : 0 ≤ 1 + k0 ∧ 1 + k0 ≤ 4000 := by omega
  refine for_range (upd_self _ _ _) (rs1 kb) (1 + k0).toNat (rn1 kb.1)
    (AreaJ 196 mm R hand cl c kl room tr)
    ⟨by rfl, by rfl, by rfl, R₃, fun _ => 0, [], [], S₄, hh₃, sx₃.at hc₂ nc, fun b ao n e => sx₃ b ao n (sx₀ _ _ e), sx₃.at hkl₂ nkl, .nil, rfl, fun p hp => (nomatch hp), fun p hp => (nomatch hp)⟩ (fun i ti h m H hi hJ => ?_) (fun m H hJ => ?_) (by rfl) (by rfl) (by rfl)
  · obtain ⟨gm, gk, gr, R', M, ks, kinds, S, hh', hc', sx', hkl', al, hlen, hko, hlt⟩ := hJ
    have hcH := S.get hc'
    obtain ⟨tm, hm⟩ := S.d
    have hi4 : (i : Int) < 4 := by omega
    have nth : ∀ xs, R' hand ≠ some (.tup xs) := fun xs => by obtain ⟨L, e⟩ := hh'.is; rw [e]; intro q; cases q
    repeat tb_rel
    refine w_callK (fn_pick hX).k ?_ (by kernel_rfl) (by kernel_rfl)
    repeat tb_rel
    refine w_call (c_pick hX hh' (fun b ao e => S.get e) (by decide) (by decide) fun w0 tw L₄ w1 w2 hh₄ => ?_) (by decide)
    have S₅ := S.set (ao := .list L₄) (hh'.is.choose_spec)
    have sx₄ : SubX hand R' (upd R' hand (.list L₄)) := SubX.upd
    generalize upd R' hand (.list L₄) = R₄ at *
    refine w_mul (fun twide => ?_) (.of_left (by decide))
    repeat tb_rel
    have hcH := S₅.get (sx₄.at hc' nc)
    refine w_AssignComp (cl := [("hand", c)]) (by kernel_rfl) ?_ (by kernel_rfl) (by decide) (by kernel_rfl) (by decide) (by kernel_rfl) (by kernel_rfl) (by kernel_rfl) (by intro _; kernel_rfl)
    repeat tb_rel
    refine w_callB (by intro _ e; cases e) ?_ (by kernel_rfl) (by kernel_rfl)
    repeat tb_rel
    refine w_fdiv (fun _ => ?_) (by decide) (noPylong_of (by decide) (by decide))
    repeat tb_rel
    rw [Int.fdiv_eq_ediv_of_nonneg _ (by decide), show 4 * w0 / 4 = w0 by omega]
    refine w_range1 fun r hr => ?_
    have S₆ := S₅.add (ao := .rng 0 w0 1) hr
    have wb : 0 ≤ w0 ∧ w0 ≤ 4000 := by omega
    refine comp_range (upd_self _ _ _) (rs1 wb) w0.toNat (rn1 wb.1) (szt wb.2)
      (fun i ys H => ∃ R₅, MS 196 mm R₅ M H ∧ HandIs hand cl R₅ ∧ SubX hand R' R₅ ∧ ∀ v ∈ ys, ∃ k t, v = .int k t) ⟨R₄, S₆, hh₄, sx₄, fun v hv => nomatch hv⟩ ?_ ?_
    · rintro j v ys h' L' m' H₇ hj ⟨t, rfl⟩ ⟨R₅, S₇, hh₅, sx₅, hys⟩ hl
      have hcH := S₇.get (sx₅.at hc' nc)
      repeat tb_rel
      unfold WTests
      repeat tb_rel
      refine w_callK (fn_pick hX).k ?_ (by kernel_rfl) (by kernel_rfl)
      repeat tb_rel
      refine w_call (c_pick hX hh₅ (fun b ao e => S₇.get e) (by decide) (by decide) fun p0 tp L₆ p1 p2 hh₆ => ?_) (by decide)
      have S₈ := S₇.set (ao := .list L₆) (hh₅.is.choose_spec)
      have sx₆ : SubX hand R₅ (upd R₅ hand (.list L₆)) := SubX.upd
      generalize upd R₅ hand (.list L₆) = R₆ at *
      repeat tb_rel
      refine if_beq (fun _ => ?_) (fun _ => ?_)
      · repeat tb_rel
        refine w_mul (fun te => ?_) (.of_left (by decide))
        refine ⟨R₆, S₈, hh₆, sx₅.trans sx₆, fun v hv => ?_⟩
        rcases mem_snoc.mp hv with hv | rfl
        · exact hys v hv
        · exact ⟨_, _, rfl⟩
      · exact ⟨R₆, S₈, hh₆, sx₅.trans sx₆, hys⟩
    · rintro ys H₈ ⟨R₅, S₇, hh₅, sx₅, hys⟩ hl D hD
      have S₈ := S₇.new (ao := .list ys) hD
      have RD := S₇.fresh hD
      have s₆ : Sub R₅ (upd R₅ D (.list ys)) := Sub.new RD
      have hhD : HandIs hand cl (upd R₅ D (.list ys)) := hh₅.sub s₆
      have nD : D ≠ hand := fun q => by obtain ⟨L, e⟩ := hh₅.is; rw [q, e] at RD; cases RD
      have hD₆ : upd R₅ D (.list ys) D = some (.list ys) := upd_self _ _ _
      have sx₆ : SubX hand R' (upd R₅ D (.list ys)) := sx₅.trans s₆.x
      generalize upd R₅ D (.list ys) = R₆ at *
      obtain ⟨tm₈, hm₈⟩ := S₈.d
      repeat tb_rel
      refine w_mul (fun _ => ?_) (.of_left (by decide))
      repeat tb_rel
      refine w_meth (mM_put hX) S₈.a hm₈ (by rfl) ?_
      refine w_callK (mM_put hX).k ?_ (by kernel_rfl) (by kernel_rfl)
      repeat tb_rel
      refine w_call (c_put hX S₈ (by omega) (by omega) fun H₉ S₉ => ?_) (by decide)
      repeat tb_rel
      refine w_callB (by intro _ e; cases e) ?_ (by kernel_rfl) (by kernel_rfl)
      repeat tb_rel
      refine w_callB (by intro _ e; cases e) ?_ (by kernel_rfl) (by kernel_rfl)
      repeat tb_rel
      have hyl : (ys.length : Int) ≤ 11 := by omega
      refine w_len (S₉.get hD₆) (by omega) fun _ => ?_
      repeat tb_rel
      refine w_range1 fun r hr => ?_
      have S₁₀ := S₉.add (ao := .rng 0 ys.length 1) hr
      generalize hM₉ : wr M (64 + 96 * (0 + (i : Int) * 1)) (4 * w0) = M₉ at *
      have yb : 0 ≤ (ys.length : Int) ∧ (ys.length : Int) ≤ 4000 := by omega
      refine for_range (upd_self _ _ _) (rs1 yb) ys.length rn1'
        (fun j m H => m "memory" = some (.ref mm.a) ∧ m "kinds" = some (.ref kl) ∧ m "room" = some (.int room tr) ∧ (∃ t, m "where" = some (.int (64 + 96 * (0 + (i : Int) * 1)) t)) ∧ (∃ t, m "wide" = some (.int (4 * w0) t)) ∧ m "offsets" = some (.ref D) ∧
          ∃ M', MS 196 mm R₆ M' H ∧ ∀ k, k ≤ 16 + 24 * (i : Int) → M' k = M₉ k)
        ⟨by with_unfolding_all assumption, by with_unfolding_all assumption, by with_unfolding_all assumption, ⟨_, by rfl⟩, ⟨_, by rfl⟩, by rfl, M₉, S₁₀, fun _ _ => rfl⟩ (fun j tj h m H hj hJ => ?_) (fun m H hJ => ?_) (by rfl) (by rfl) (by rfl)
      · obtain ⟨gm, gk, gr, ⟨twh, gw⟩, ⟨twi, gwi⟩, go, M', S₁₁, hM'⟩ := hJ
        obtain ⟨tm₁, hm₁⟩ := S₁₁.d
        obtain ⟨v, tv, hv⟩ := hys ys[j] (List.getElem_mem hj)
        have hget : ys[(0 + (j : Int) * 1).toNat]? = some (.int v tv) := by rw [show (0 + (j : Int) * 1).toNat = j by omega, List.getElem?_eq_getElem hj, hv]
        repeat tb_rel
        refine w_meth (mM_put hX) S₁₁.a hm₁ (by rfl) ?_
        refine w_callK (mM_put hX).k ?_ (by kernel_rfl) (by kernel_rfl)
        repeat tb_rel
        refine w_mul (fun _ => ?_) (.of_left (by decide))
        repeat tb_rel
        refine w_subL (S₁₁.get hD₆) (by omega) (by omega) hget ?_ (by with_unfolding_all rfl)
        repeat tb_rel
        refine w_call (c_put hX S₁₁ (by omega) (by omega) fun H₁₂ S₁₂ => ?_) (by decide)
        repeat tb_rel
        refine ⟨gm, gk, gr, ⟨_, gw⟩, ⟨_, gwi⟩, go, _, S₁₂, fun k hk => ?_⟩
        unfold wr
        rw [if_neg (by omega)]
        exact hM' k hk
      · obtain ⟨gm, gk, gr, ⟨twh, gw⟩, ⟨twi, gwi⟩, go, M', S₁₁, hM'⟩ := hJ
        obtain ⟨tm₁, hm₁⟩ := S₁₁.d
        repeat tb_rel
        refine w_meth (mM_put hX) S₁₁.a hm₁ (by rfl) ?_
        refine w_callK (mM_put hX).k ?_ (by kernel_rfl) (by kernel_rfl)
        repeat tb_rel
        refine w_callB (by intro _ e; cases e) ?_ (by kernel_rfl) (by kernel_rfl)
        repeat tb_rel
        refine w_len (S₁₁.get hD₆) (by omega) fun _ => ?_
        refine w_mul (fun _ => ?_) (.of_left (by decide))
        repeat tb_rel
        refine w_pow (by decide) (by decide) (by decide) fun _ => ?_
        repeat tb_rel
        refine w_call (c_put hX S₁₁ (by omega) (by omega) fun H₁₂ S₁₂ => ?_) (by decide)
        repeat tb_rel
        have hkl₁ : R₆ kl = some (.list ks) := sx₆.at hkl' nkl
        refine w_mList (S₁₂.get hkl₁) PySem.F.slot_list_append PySem.F.type_list_append ?_
        refine w_callB (by intro _ e; cases e) ?_ (by kernel_rfl) (by kernel_rfl)
        repeat tb_rel
        refine w_Tuple ?_
        repeat tb_rel
        refine ⟨by rw [sizeLine_eq]; simp, fun t ht => ?_⟩
        have S₁₃ := S₁₂.new (ao := .tup [.int (64 + 96 * (0 + (i : Int) * 1)) twh, .int (4 * w0) twi, .ref D]) ht
        have Rt := S₁₂.fresh ht
        have nt : kl ≠ t := fun q => by rw [← q, hkl₁] at Rt; cases Rt
        have hkl₃ : upd R₆ t (.tup [.int (64 + 96 * (0 + (i : Int) * 1)) twh, .int (4 * w0) twi, .ref D]) kl = some (.list ks) := by rw [upd_ne nt]; exact hkl₁
        repeat tb_rel
        refine w_append (S₁₃.get hkl₃) (by rw [sizeLine_eq, al.len]; omega) ?_
        have S₁₄ := S₁₃.set (ao := .list (ks ++ [.ref t])) hkl₃
        have ts : TupSub R' (upd (upd R₆ t (.tup [.int (64 + 96 * (0 + (i : Int) * 1)) twh, .int (4 * w0) twi, .ref D])) kl (.list (ks ++ [.ref t]))) :=
          ((sx₆.tup nth).trans (Sub.new Rt).tup).trans (TupSub.upd fun xs => by rw [hkl₃]; intro e; cases e)
        have nth' : hand ≠ t := fun q => by obtain ⟨L, e⟩ := hhD.is; rw [q, Rt] at e; cases e
        have ntc : cl ≠ t := fun q => by obtain ⟨L, e⟩ := hhD.cs; rw [q, Rt] at e; cases e
        repeat tb_rel
        refine ⟨gm, gk, gr, _, _, ks ++ [.ref t], kinds ++ [(64 + 96 * (0 + (i : Int) * 1), 4 * w0)], S₁₄, hhD.keep (by rw [upd_ne (Ne.symm nkl), upd_ne nth']) (by rw [upd_ne (Ne.symm ncl), upd_ne ntc]), ?_, fun b ao n e => ?_, upd_self _ _ _, (al.mono (KindIs.mono ts)).snoc ⟨t, twh, twi, D, rfl, ?_⟩, by simp [hlen], fun p hp => ?_, fun p hp => ?_⟩
        · have e := sx₆.at hc' nc
          rw [upd_ne (fun q => by rw [q, hkl₁] at e; cases e), upd_ne (fun q => by rw [q, Rt] at e; cases e)]
          exact e
        · have e₁ := sx₆.at (sx' b ao n e) n
          rw [upd_ne (fun q => ?_), upd_ne (fun q => by rw [q, Rt] at e₁; cases e₁)]
          · exact e₁
          · have h1 : R kl = none := by
              cases e : R kl with
              | none => rfl
              | some ao => have := Sub.new (ao := .cell (some (.ref hand))) Rc _ _ e; rw [this] at Rkl; cases Rkl
            rw [q, h1] at e; cases e
        · rw [upd_ne (Ne.symm nt), upd_self]
        · unfold wr
          rcases mem_snoc.mp hp with hp | rfl
          · have hk := hko p hp
            have hl := hlt p hp
            obtain ⟨⟨a1, a2, a3, a4⟩, a5, a6⟩ := hk
            refine ⟨⟨a1, a2, a3, a4⟩, ?_, a6⟩
            rw [if_neg (by omega), hM' _ (by omega), ← hM₉]
            unfold wr
            rw [if_neg (by omega)]
            exact a5
          · refine ⟨⟨by show 64 ≤ 64 + 96 * (0 + (i : Int) * 1); omega, by show 64 + 96 * (0 + (i : Int) * 1) ≤ 352; omega, by show (64 + 96 * (0 + (i : Int) * 1)) % 4 = 0; omega, by show (64 + 96 * (0 + (i : Int) * 1)) % 2 = 0; omega⟩, ?_, by show 4 * w0 % 4 = 0; omega, by show 0 ≤ 4 * w0; omega, by show 4 * w0 ≤ 44; omega⟩
            show (if (64 + 96 * (0 + (i : Int) * 1)) / 4 = _ then _ else _) = 4 * w0
            rw [if_neg (by omega), hM' _ (by omega), ← hM₉]
            unfold wr
            rw [if_pos rfl]
            omega
        · rcases mem_snoc.mp hp with hp | rfl
          · have := hlt p hp; simp only [Int.natCast_succ]; omega
          · show 64 + 96 * (0 + (i : Int) * 1) < _; simp only [Int.natCast_succ]; omega
  · obtain ⟨gm, gk, gr, R', M, ks, kinds, S, hh', hc', sx', hkl', al, hlen, hko, hlt⟩ := hJ
    repeat tb_rel
    refine w_Tuple ?_
    repeat tb_rel
    refine w_callK (fn_Heap hX).k ?_ (by kernel_rfl) (by kernel_rfl)
    repeat tb_rel
    refine w_mul (fun _ => ?_) (.of_left (by decide))
    repeat tb_rel
    refine w_call (c_heap hX S (by decide) (by decide) (by omega) (by omega) (by omega) fun hp hd H₂ M' F' Ls' S₂ I low => ?_) (by decide)
    repeat tb_rel
    refine ⟨by rw [sizeLine_eq]; simp, fun t ht => ?_⟩
    have S₃ := S₂.new (ao := .tup [.ref hp, .ref kl]) ht
    have Rt := S₂.fresh ht
    have s₃ : Sub R' (upd R' t (.tup [.ref hp, .ref kl])) := Sub.new Rt
    rw [show 1024 + 16 * room - 1024 = 16 * room by omega] at I
    exact q ⟨mm, hp, hd⟩ _ M' F' Ls' kl ks kinds t _ S₃ I (upd_self _ _ _) (s₃ _ _ hkl') (al.mono (KindIs.mono s₃.tup)) (by omega) (by omega) (hko.low low) (hh'.sub s₃) (sx'.trans s₃.x) nkl ncl
end
end
section
section
variable {X : Fx} {H : Hp} (hX : IsK X)
include hX
theorem fn_made : FnOk X.K "_law_made" 240 := ⟨by rw [hX]; kernel_rfl, by rw [hX]; kernel_rfl⟩
theorem c_made {hand cl : Addr} {y : Yd} {R : Hp} {M : Int → Int} {F : List Int} {Ls : Nat → List Int} {B : List Bk} {st lim most : Int} {tm : Tok} {kl : Addr} {ks : List Value} {kinds : List (Int × Int)} {recs₀ : List Rec} {Q : Value → Hp → Prop}
    (S : HS 196 108 y R M F st lim H) (I : Inv M F Ls B st lim) (hh : HandIs hand cl R) (hkl : R kl = some (.list ks)) (al : All2 (KindIs R) ks kinds) (k1 : 1 ≤ kinds.length) (k4 : kinds.length ≤ 4) (ko : KindsOk M kinds) (nkl : kl ≠ hand)
    (hp : (recs₀.map Rec.key).Perm (usedOf B)) (hm : Marks M B) (m0 : 0 ≤ most) (m1 : most ≤ 100)
    (q : ∀ H' R' M' F' Ls' B' l rs recs, HS 196 108 y R' M' F' st lim H' → Inv M' F' Ls' B' st lim → (∀ k, k < 256 → M' k = M k) → HandIs hand cl R' → SubX hand R R' → R' l = some (.list rs) → R l = none → All2 (RecIs R') rs recs →
      ((recs₀ ++ recs).map Rec.key).Perm (usedOf B') → (∀ r ∈ recs, (r.a, r.w) ∈ kinds) → Marks M' B' → recs.length ≤ most.toNat → Q (.ref l) H') : Spec X 6 (.ref 240) [.ref hand, .ref y.hp, .ref kl, .int most tm] H Q := by
  have np := (fn_pick hX).n
  have br := b_range hX
  have bl := b_len hX
  refine spec_fn (f := 240) ["hand", "area", "kinds", "most"] (by rw [hX]; rfl) (by rw [hX]; rfl) (by rfl) (by rfl) (by rfl) (fun C => ?_)
  repeat tb_rel
  refine w_List ?_
  repeat tb_rel
  refine ⟨by rw [sizeLine_eq]; simp, fun l hl => ?_⟩
  have S₁ := S.new (ao := .list []) hl
  have Rl := S.fresh hl
  repeat tb_rel
  refine w_callB (by intro _ e; cases e) ?_ (by kernel_rfl) (by kernel_rfl)
  repeat tb_rel
  refine w_range1 fun r hr => ?_
  have nl : l ≠ hand := fun q => by obtain ⟨L, e⟩ := hh.is; rw [q, e] at Rl; cases Rl
  have nlc : l ≠ cl := fun q => by obtain ⟨L, e⟩ := hh.cs; rw [q, e] at Rl; cases Rl
  refine for_range (upd_self _ _ _) (rs1 ⟨m0, Int.le_trans m1 (by decide)⟩) most.toNat (rn1 m0)
    (MadeJ 196 108 y R M st lim hand cl kl l kinds recs₀)
    ⟨by rfl, by rfl, by rfl, by rfl, _, M, F, Ls, B, [], [], S₁.add hr, I, fun _ _ => rfl, hh.sub (Sub.new Rl), (Sub.new Rl).x, upd_self _ _ _, .nil, by rw [List.append_nil]; exact hp, fun _ h => (nomatch h), hm, Nat.le_refl _⟩ (fun i ti h m H hi hJ => ?_) (fun m H hJ => ?_) (by rfl) (by rfl) (by rfl)
  · obtain ⟨gh, ga, gk, gr, R', M', F', Ls', B', rs, recs, S₂, I₂, low, hh₂, sx, hrs, ar, pr, hk, hmk, hlen⟩ := hJ
    have hkl₂ := sx.at hkl nkl
    obtain ⟨t1, t2, fl, vs, j2, j3, j4, j5⟩ := S₂.hd
    have nth : ∀ xs, R hand ≠ some (.tup xs) := fun xs => by obtain ⟨L, e⟩ := hh.is; rw [e]; intro q; cases q
    have al₂ := al.mono (KindIs.mono (sx.tup nth))
    have hkz := al.len
    repeat tb_rel
    refine w_callK (fn_pick hX).k ?_ (by kernel_rfl) (by kernel_rfl)
    repeat tb_rel
    refine w_callB (by intro _ e; cases e) ?_ (by kernel_rfl) (by kernel_rfl)
    repeat tb_rel
    refine w_len (S₂.get hkl₂) (by omega) fun _ => ?_
    repeat tb_rel
    refine w_call (c_pick hX hh₂ (fun b ao e => S₂.get e) (by omega) (by omega) fun p0 tp L₃ p1 p2 hh₃ => ?_) (by decide)
    have S₃ := S₂.set (ao := .list L₃) (hh₂.is.choose_spec)
    have sx₃ : SubX hand R' (upd R' hand (.list L₃)) := SubX.upd
    have nth₂ : ∀ xs, R' hand ≠ some (.tup xs) := fun xs => by obtain ⟨L, e⟩ := hh₂.is; rw [e]; intro q; cases q
    generalize upd R' hand (.list L₃) = R₃ at *
    have hlt : p0.toNat < kinds.length := by omega
    obtain ⟨v, hv, hkind⟩ := al₂.getR (List.getElem?_eq_getElem hlt)
    have hkm : kinds[p0.toNat] ∈ kinds := List.getElem_mem hlt
    generalize kinds[p0.toNat] = kd at *
    have hkind₃ := hkind.mono (sx₃.tup nth₂)
    obtain ⟨tk, ta, tw, o, rfl, htk⟩ := hkind₃
    have hko : KindsOk M' kinds := ko.low low
    have D := hko.desc hkm
    obtain ⟨t1', t2', fl', vs', l2, l3, l4, l5⟩ := S₃.hd
    refine w_subL (S₃.get (sx₃.at hkl₂ nkl)) p1 (by omega) hv ?_ (by with_unfolding_all rfl)
    repeat tb_rel
    refine w_meth (mH_alloc hX) S₃.hp l2 (by rfl) ?_
    refine w_callK (mH_alloc hX).k ?_ (by kernel_rfl) (by kernel_rfl)
    repeat tb_rel
    refine w_subT (S₃.get htk) (by decide) (by decide) (by rfl) ?_ (by with_unfolding_all rfl)
    repeat tb_rel
    refine w_call (c_alloc hX S₃ I₂ D (fun H₄ t4 hno S₄ => ?_) (fun pre b suf M₄ F₄ Ls₄ H₄ t4 eB hbd hle K S₄ => ?_)) (by decide)
    · repeat tb_rel
      refine if_bne (fun h => absurd rfl h) (fun _ => ?_)
      repeat tb_rel
      exact ⟨gh, ga, gk, gr, R₃, M', F', Ls', B', rs, recs, S₄, I₂, low, hh₃, sx.trans sx₃, sx₃.at hrs nl, ar.mono (RecIs.mono (sx₃.tup nth₂)), pr, hk, hmk, by omega⟩
    · obtain ⟨⟨b1, b2, b3⟩, b4⟩ := I₂.oka b (by rw [eB]; simp)
      repeat tb_rel
      refine if_bne (fun _ => ?_) (fun h => by omega)
      repeat tb_rel
      have hrs₃ := sx₃.at hrs nl
      refine w_mList (S₄.get hrs₃) PySem.F.slot_list_append PySem.F.type_list_append ?_
      refine w_callB (by intro _ e; cases e) ?_ (by kernel_rfl) (by kernel_rfl)
      repeat tb_rel
      refine w_Tuple ?_
      repeat tb_rel
      refine ⟨by rw [sizeLine_eq]; simp, fun t ht => ?_⟩
      have S₅ := S₄.new (ao := .tup [.int (b.a + 8) t4, .ref tk]) ht
      have Rt := S₄.fresh ht
      have nt : l ≠ t := fun q => by rw [← q, hrs₃] at Rt; cases Rt
      have hrs₅ : upd R₃ t (.tup [.int (b.a + 8) t4, .ref tk]) l = some (.list rs) := by rw [upd_ne nt]; exact hrs₃
      repeat tb_rel
      refine w_append (S₅.get hrs₅) (by have := ar.len; rw [sizeLine_eq]; omega) ?_
      have S₆ := S₅.set (ao := .list (rs ++ [.ref t])) hrs₅
      have ts₃ : TupSub R₃ (upd (upd R₃ t (.tup [.int (b.a + 8) t4, .ref tk])) l (.list (rs ++ [.ref t]))) := (Sub.new Rt).tup.trans (TupSub.upd fun xs => by rw [hrs₅]; intro e; cases e)
      have nht : hand ≠ t := fun q => by obtain ⟨L, e⟩ := hh₃.is; rw [q, Rt] at e; cases e
      have nct : cl ≠ t := fun q => by obtain ⟨L, e⟩ := hh₃.cs; rw [q, Rt] at e; cases e
      repeat tb_rel
      refine ⟨gh, ga, gk, gr, _, _, _, _, _, rs ++ [.ref t], recs ++ [⟨b.a + 8, kd.1, kd.2⟩], S₆, K.inv, fun k h => (K.low k h).trans (low k h), hh₃.keep (by rw [upd_ne (Ne.symm nl), upd_ne nht]) (by rw [upd_ne (Ne.symm nlc), upd_ne nct]), fun c co n e => ?_, upd_self _ _ _,
        (ar.mono (RecIs.mono ((sx₃.tup nth₂).trans ts₃))).snoc ⟨t, t4, .ref tk, rfl, ?_, tk, ta, tw, o, rfl, ts₃ _ _ htk⟩, ?_, fun r hr => ?_, K.marks eB I₂.oka (bsz_ok D.w).1 hmk, by simp; omega⟩
      · have e₃ := sx₃.at (sx c co n e) n
        rw [upd_ne (fun q => by rw [q, Rl] at e; cases e), upd_ne (fun q => by rw [q, Rt] at e₃; cases e₃)]
        exact e₃
      · rw [upd_ne (Ne.symm nt), upd_self]
      · have := K.keys eB hbd pr
        rw [← List.append_assoc, List.map_append]
        have e : List.map Rec.key [(⟨b.a + 8, kd.1, kd.2⟩ : Rec)] = [(b.a, kd.1)] := by simp [Rec.key]
        rw [e]
        exact this
      · rcases mem_snoc.mp hr with hr | rfl
        · exact hk r hr
        · exact hkm
  · obtain ⟨gh, ga, gk, gr, R', M', F', Ls', B', rs, recs, S₂, I₂, low, hh₂, sx, hrs, ar, pr, hk, hmk, hlen⟩ := hJ
    repeat tb_rel
    exact q _ R' M' F' Ls' B' l rs recs S₂ I₂ low hh₂ sx hrs Rl ar pr hk hmk hlen
end
end
section
section
variable {X : Fx} (hX : IsK X)
include hX
theorem b_sum : BuiltOk X.K "sum" (.builtin "sum") := ⟨by rw [hX]; kernel_rfl, by rfl⟩
theorem c_law {A : Around} {h₀ : Heap} {s : Shared} {l : Addr} {vs : List Value} {ns : List Int} (a : AOk A 12) (g : Grd X h₀) (kp : Keep h₀ s.heap) (hsz : h₀.objs.size ≤ s.heap.objs.size) (hl : h₀.IsList l vs.toArray) (hi : IntsAre vs ns) (hn : ns.length ≤ 63) :
    codeAny (model X.prog X.w) A (.call (.ref 245) ⟨[.ref l], []⟩) (fun r s' => ∃ v H', r = .ok (.ret v) ∧ Same s s' ∧ Keep h₀ s'.heap ∧ HIn h₀ H' s'.heap ∧ v = .bool true) s := by
  have np := (fn_pick hX).n
  have na := (fn_area hX).n
  have nm := (fn_made hX).n
  have ns' := (fn_sweep hX).n
  have nlb := (fn_lblock hX).n
  have br := b_range hX
  have bs := b_sum hX
  have hlen := (ints_of hi).2
  refine call_defC (n := 11) (H := fun _ => none) (f := 245) (x := "hand") (v := none) (binds := [("script", .ref l)]) (m := fun y => if y = "script" then some (.ref l) else none) (Q := fun v _ => v = .bool true) (by rw [hX]; rfl) (by rw [hX]; rfl) (by rfl) (by intro k; rfl)
    (by
      intro k z hz
      simp only [List.mem_cons, List.not_mem_nil, or_false] at hz
      subst hz
      exact .inl (by kernel_rfl)) (by intro L; with_unfolding_all rfl) (by intro L; with_unfolding_all rfl) (fun C c hC hc => ?_) a g kp hsz (fun _ _ e => nomatch e)
  have hl' : C.h₀.IsList l vs.toArray := by rw [hC]; exact hl
  iterate 2 tb_rel
  refine w_slice (by rfl) hl' hi (by rw [sizeLine_eq]; omega) (by decide) (fun cl ys hcl hys => ?_) (by kernel_rfl) (by kernel_rfl) (by kernel_rfl) (by kernel_rfl)
  obtain ⟨yi, yl⟩ := ints_of hys
  have hcc : upd (upd (fun _ => none) c (.cell none)) cl (.list ys) c = some (.cell none) := by
    rw [upd_ne (fun q => by rw [q, upd_self] at hcl; cases hcl)]; exact upd_self _ _ _
  repeat tb_rel
  refine w_List ?_
  repeat tb_rel
  refine w_callB (by intro _ e; cases e) ?_ (by kernel_rfl) (by kernel_rfl)
  repeat tb_rel
  refine w_sum (upd_self _ _ _) yi fun _ => ?_
  repeat tb_rel
  refine w_fmod (fun _ => ?_) (by decide)
  rw [Int.fmod_eq_emod_of_nonneg _ (by decide)]
  repeat tb_rel
  refine w_mul (fun tsd => ?_) (.of_right (by decide))
  repeat tb_rel
  rename_i t01 t02 _ _ _ _
  refine ⟨by rw [sizeLine_eq]; simp, fun hd hhd => ?_⟩
  have n1 : hd ≠ cl := fun q => by rw [q, upd_self] at hhd; cases hhd
  have n2 : hd ≠ c := fun q => by rw [q, hcc] at hhd; cases hhd
  repeat tb_rel
  refine w_storeCell (v₀ := none) (by with_unfolding_all rfl) (by rw [upd_ne (Ne.symm n2)]; exact hcc) ?_ (by kernel_rfl) (by kernel_rfl)
  generalize hk0 : preSum (fun i => valI ys[i]?) ys.length % 100003 * 7 = k0
  have k0' : 0 ≤ k0 ∧ k0 < 2147483647 := by omega
  have hcl' : (upd (upd (upd (upd (fun _ => none) c (.cell none)) cl (.list ys)) hd (.list [.ref cl, .int 0 t01, .int 0 t02, .int k0 tsd])) c (.cell (some (.ref hd)))) cl = some (.list ys) := by
    rw [upd_ne (fun q => by rw [q, upd_self] at hcl; cases hcl), upd_ne (Ne.symm n1), upd_self]
  have hh : HandIs hd cl (upd (upd (upd (upd (fun _ => none) c (.cell none)) cl (.list ys)) hd (.list [.ref cl, .int 0 t01, .int 0 t02, .int k0 tsd])) c (.cell (some (.ref hd)))) := by
    refine ⟨ys, [.ref cl, .int 0 t01, .int 0 t02, .int k0 tsd], ?_, ⟨hcl', yi, ?_, 0, 0, k0, t01, t02, tsd, rfl, by decide, by omega, by decide, k0'.1, k0'.2⟩, Ne.symm n1⟩
    · rw [upd_ne n2, upd_self]
    · rw [yl, List.length_take]; omega
  have hcell : (upd (upd (upd (upd (fun _ => none) c (.cell none)) cl (.list ys)) hd (.list [.ref cl, .int 0 t01, .int 0 t02, .int k0 tsd])) c (.cell (some (.ref hd)))) c = some (.cell (some (.ref hd))) := upd_self _ _ _
  generalize (upd (upd (upd (upd (fun _ => none) c (.cell none)) cl (.list ys)) hd (.list [.ref cl, .int 0 t01, .int 0 t02, .int k0 tsd])) c (.cell (some (.ref hd)))) = H₁ at *
  clear hcc hhd hcl hcl'
  have nc : c ≠ hd := Ne.symm n2
  repeat tb_rel
  refine w_callK (fn_area hX).k ?_ (by kernel_rfl) (by kernel_rfl)
  repeat tb_rel
  refine w_callK (fn_pick hX).k ?_ (by kernel_rfl) (by kernel_rfl)
  repeat tb_rel
  refine w_call (c_pick hX hh (Sub.refl _) (by decide) (by decide) fun p0 tp L₂ p1 p2 hh₂ => ?_) (by decide)
  have hcell₂ : upd H₁ hd (.list L₂) c = some (.cell (some (.ref hd))) := by rw [upd_ne nc]; exact hcell
  generalize upd H₁ hd (.list L₂) = H₂ at *
  repeat tb_rel
  refine w_call (c_area hX hh₂ (Sub.refl _) (by omega) (by omega) fun y R₃ M₃ F₃ Ls₃ kl ks kinds t₃ H₃ S₃ I₃ ht₃ hkl al k1 k4 ko hh₃ sx₃ nkl ncl => ?_) (by decide)
  have hc₃ := sx₃.at hcell₂ nc
  have hcH := S₃.get hc₃
  refine w_unpack2 (S₃.get ht₃) ?_
  repeat tb_rel
  refine w_callK (fn_made hX).k ?_ (by kernel_rfl) (by kernel_rfl)
  repeat tb_rel
  refine w_callK (fn_pick hX).k ?_ (by kernel_rfl) (by kernel_rfl)
  repeat tb_rel
  refine w_call (c_pick hX hh₃ (fun b ao e => S₃.get e) (by decide) (by decide) fun q0 tq L₄ q1 q2 hh₄ => ?_) (by decide)
  have S₄ := S₃.set (ao := .list L₄) (hh₃.is.choose_spec)
  have sx₄ : SubX hd R₃ (upd R₃ hd (.list L₄)) := SubX.upd
  have nth₃ : ∀ xs, R₃ hd ≠ some (.tup xs) := fun xs => by obtain ⟨L, e⟩ := hh₃.is; rw [e]; intro q; cases q
  generalize upd R₃ hd (.list L₄) = R₄ at *
  have al₄ := al.mono (KindIs.mono (sx₄.tup nth₃))
  have hkl₄ := sx₄.at hkl nkl
  have hc₄ := sx₄.at hc₃ nc
  repeat tb_rel
  refine w_call (c_made hX (recs₀ := []) S₄ I₃ hh₄ hkl₄ al₄ k1 k4 ko nkl (by simp [usedOf]) (fun b hb h => by rw [List.mem_singleton.mp hb] at h; exact absurd rfl h) q1 (by omega)
    fun H₅ R₅ M₅ F₅ Ls₅ B₅ lr rs recs S₅ I₅ low₅ hh₅ sx₅ hrs nlr ar pr hk hmk hln => ?_) (by decide)
  rw [List.nil_append] at pr
  have ko₅ := ko.low low₅
  have hc₅ := sx₅.at hc₄ nc
  have nlrh : lr ≠ hd := fun q => by obtain ⟨L, e⟩ := hh₄.is; rw [q, e] at nlr; cases nlr
  have nlrc : lr ≠ c := fun q => by rw [q, hc₄] at nlr; cases nlr
  have nlrl : lr ≠ cl := fun q => by obtain ⟨L, e⟩ := hh₄.cs; rw [q, e] at nlr; cases nlr
  tb_rel
  clear S₃ S₄ hcH I₃ ko hh₂ hh₃ hh₄
  refine w_cons (w_mono (Q := fun f m H => f = .next ∧ m "area" = some (.ref y.hp) ∧ ∃ R M F Ls B l rs recs, HS 196 108 y R M F 1024 (1024 + 16 * (2 + p0)) H ∧ Inv M F Ls B 1024 (1024 + 16 * (2 + p0)) ∧ HandIs hd cl R ∧ R c = some (.cell (some (.ref hd))) ∧ m "records" = some (.ref l) ∧ l ≠ hd ∧ l ≠ cl ∧ l ≠ c ∧
    R l = some (.list rs) ∧ All2 (RecIs R) rs recs ∧ (recs.map Rec.key).Perm (usedOf B) ∧ (∀ r ∈ recs, (r.a, r.w) ∈ kinds) ∧ KindsOk M kinds ∧ recs.length ≤ 100) ?_ ?_)
  · have hcH := S₅.get hc₅
    repeat tb_rel
    refine w_callK (fn_pick hX).k ?_ (by kernel_rfl) (by kernel_rfl)
    repeat tb_rel
    refine w_call (c_pick hX hh₅ (fun b ao e => S₅.get e) (by decide) (by decide) fun z0 tz L₆ z1 z2 hh₆ => ?_) (by decide)
    have S₆ := S₅.set (ao := .list L₆) (hh₅.is.choose_spec)
    have sx₆ : SubX hd R₅ (upd R₅ hd (.list L₆)) := SubX.upd
    have nth₅ : ∀ xs, R₅ hd ≠ some (.tup xs) := fun xs => by obtain ⟨L, e⟩ := hh₅.is; rw [e]; intro q; cases q
    generalize upd R₅ hd (.list L₆) = R₆ at *
    have hrs₆ := sx₆.at hrs nlrh
    have hc₆ := sx₆.at hc₅ nc
    have ar₆ := ar.mono (RecIs.mono (sx₆.tup nth₅))
    repeat tb_rel
    refine if_beq (fun _ => ?_) (fun _ => ?_)
    · have hcH₆ := S₆.get hc₆
      tb_rel
      refine w_AssignComp (cl := [("hand", c)]) (by kernel_rfl) ?_ (by kernel_rfl) (by decide) (by kernel_rfl) (by decide) (by kernel_rfl) (by kernel_rfl) (by kernel_rfl) (by intro _; kernel_rfl)
      repeat tb_rel
      have hrl := ar₆.len
      have nld : ∀ xs, R₆ lr ≠ some (.tup xs) := fun xs => by rw [hrs₆]; intro e; cases e
      refine comp_list (S₆.get hrs₆) (by rw [sizeLine_eq]; omega) (.inl ⟨_, _, rfl⟩)
        (fun i ys H => ∃ R' recs', HS 196 108 y R' M₅ F₅ 1024 (1024 + 16 * (2 + p0)) H ∧ HandIs hd cl R' ∧ SubX hd (del R₆ lr) R' ∧ All2 (RecIs R') ys recs' ∧ recs'.Sublist (recs.take i))
        ⟨_, [], S₆.del hrs₆, hh₆.keep (del_ne (Ne.symm nlrh)) (del_ne (Ne.symm nlrl)), SubX.refl _ _, .nil, List.nil_sublist _⟩ ?_ ?_
      · rintro j v ys' h' L' m' H₇ hj hv ⟨R₇, recs', S₇, hh₇, sx₇, ays, sl⟩ hl₇
        have hc₇ := S₇.get (sx₇.at (show del R₆ lr c = _ by rw [del_ne (Ne.symm nlrc)]; exact hc₆) nc)
        obtain ⟨rc, hrc, hrv⟩ := ar₆.get hv
        have nth₇ : ∀ xs, del R₆ lr hd ≠ some (.tup xs) := fun xs => by rw [del_ne (Ne.symm nlrh)]; obtain ⟨L, e⟩ := hh₆.is; rw [e]; intro q; cases q
        have hrv₇ : RecIs R₇ v rc := RecIs.mono ((TupSub.del nld).trans (sx₇.tup nth₇)) v rc hrv
        repeat tb_rel
        unfold WTests
        repeat tb_rel
        refine w_callK (fn_pick hX).k ?_ (by kernel_rfl) (by kernel_rfl)
        repeat tb_rel
        refine w_call (c_pick hX hh₇ (fun b ao e => S₇.get e) (by decide) (by decide) fun u0 tu L₈ u1 u2 hh₈ => ?_) (by decide)
        have S₈ := S₇.set (ao := .list L₈) (hh₇.is.choose_spec)
        have sx₈ : SubX hd R₇ (upd R₇ hd (.list L₈)) := SubX.upd
        have nth₈ : ∀ xs, R₇ hd ≠ some (.tup xs) := fun xs => by obtain ⟨L, e⟩ := hh₇.is; rw [e]; intro q; cases q
        generalize upd R₇ hd (.list L₈) = R₈ at *
        have ays₈ := ays.mono (RecIs.mono (sx₈.tup nth₈))
        have etk : recs.take (j + 1) = recs.take j ++ [rc] := by rw [List.take_add_one, hrc]; rfl
        repeat tb_rel
        refine if_beq (fun _ => ?_) (fun _ => ?_)
        · repeat tb_rel
          exact ⟨R₈, recs' ++ [rc], S₈, hh₈, sx₇.trans sx₈, ays₈.snoc (RecIs.mono (sx₈.tup nth₈) v rc hrv₇), by rw [etk]; exact sl.append (List.Sublist.refl _)⟩
        · exact ⟨R₈, recs', S₈, hh₈, sx₇.trans sx₈, ays₈, by rw [etk]; exact sl.trans (List.sublist_append_left _ _)⟩
      · rintro ys' H₇ ⟨R₇, recs', S₇, hh₇, sx₇, ays, sl⟩ hl₇ hlr D hD
        have sl' : recs'.Sublist recs := sl.trans (List.take_sublist _ _)
        have hc₇ := sx₇.at (show del R₆ lr c = _ by rw [del_ne (Ne.symm nlrc)]; exact hc₆) nc
        have S₈ := (S₇.add (ao := .list rs) hlr).new (ao := .list ys') hD
        have RD : R₇ D = none := (S₇.add (ao := .list rs) hlr).fresh hD
        have s₈ : Sub R₇ (upd R₇ D (.list ys')) := Sub.new RD
        have hh₈ : HandIs hd cl (upd R₇ D (.list ys')) := hh₇.sub s₈
        have hc₈ := s₈ _ _ hc₇
        have ays₈ := ays.mono (RecIs.mono s₈.tup)
        have nDh : D ≠ hd := fun q => by obtain ⟨L, e⟩ := hh₇.is; rw [q, e] at RD; cases RD
        have nDl : D ≠ cl := fun q => by obtain ⟨L, e⟩ := hh₇.cs; rw [q, e] at RD; cases RD
        have nDc : D ≠ c := fun q => by rw [q, hc₇] at RD; cases RD
        have hD₈ : upd R₇ D (.list ys') D = some (.list ys') := upd_self _ _ _
        generalize upd R₇ D (.list ys') = R₈ at *
        have hkey : ∀ r ∈ recs', r.key ∈ usedOf B₅ := fun r hr => pr.mem_iff.mp (List.mem_map.mpr ⟨r, sl'.subset hr, rfl⟩)
        have hyl := ays₈.len
        have nDt : ∀ xs, R₈ D ≠ some (.tup xs) := fun xs => by rw [hD₈]; intro e; cases e
        repeat tb_rel
        refine for_list (S₈.get hD₈) (.inr ⟨⟨_, _, _, rfl⟩, fun v hv => by obtain ⟨b, _, t, _, _, e, _⟩ := ays₈.mem hv; exact ⟨t, e⟩⟩)
          (fun i m H => m "area" = some (.ref y.hp) ∧ m "records" = some (.ref D) ∧ ∃ M', HS 196 108 y (del R₈ D) M' F₅ 1024 (1024 + 16 * (2 + p0)) H ∧ Marked M₅ (recs'.take i) M')
          ⟨by with_unfolding_all rfl, by with_unfolding_all rfl, M₅, S₈.del hD₈, Marked.nil _⟩ ?_ ?_
        · rintro i v h m H₉ hv ⟨ga, gr, M', S₉, mk⟩
          obtain ⟨rc, hrc, t, tt, kv, rfl, ht, hkv⟩ := ays₈.get hv
          have ht₉ : del R₈ D t = _ := (TupSub.del nDt) _ _ ht
          obtain ⟨b, hb, e1, e2, ⟨o1, o2, o3⟩⟩ := key_block I₅ hkey (List.mem_of_getElem? hrc)
          obtain ⟨t1, t2, fl, vs', j2, j3, j4, j5⟩ := S₉.hd
          obtain ⟨tm, hm⟩ := S₉.m.d
          refine w_unpack2 (S₉.get ht₉) ?_
          repeat tb_rel
          refine w_field (gH_memory hX) S₉.hp j2 (by rfl) (by rfl) ?_
          refine w_meth (mM_put hX) S₉.m.a hm (by rfl) ?_
          refine w_callK (mM_put hX).k ?_ (by kernel_rfl) (by kernel_rfl)
          repeat tb_rel
          refine w_call (c_putH hX S₉ (by omega) (by omega) fun H₁₀ S₁₀ => ?_) (by decide)
          repeat tb_rel
          refine ⟨by with_unfolding_all assumption, by with_unfolding_all assumption, _, S₁₀, ?_⟩
          rw [show recs'.take (i + 1) = recs'.take i ++ [rc] by rw [List.take_add_one, hrc]; rfl]
          exact mk.snoc rc (by decide) (by decide)
        · rintro m H₉ ⟨ga, gr, M', S₉, mk⟩ hDn
          rw [show recs'.take ys'.length = recs' by rw [hyl]; exact List.take_length] at mk
          have S₁₀ := S₉.new (ao := .list ys') hDn
          have I₁₀ := inv_marked I₅ hkey mk
          repeat tb_rel
          refine w_callK (fn_sweep hX).k ?_ (by kernel_rfl) (by kernel_rfl)
          repeat tb_rel
          refine w_call (c_sweep hX S₁₀ I₁₀ fun H₁₁ R₁₁ M₁₁ F₁₁ Ls₁₁ B₁₁ ts sub₁₁ S₁₁ sw => ?_) (by decide)
          obtain ⟨pk, _⟩ := swept_keys I₅ pr sl' mk hmk sw
          have sD : ∀ b ao, b ≠ D → R₈ b = some ao → R₁₁ b = some ao := fun b ao n e => sub₁₁ _ _ (by rw [upd_ne n, del_ne n]; exact e)
          have tD : TupSub R₈ R₁₁ := fun b xs e => sD b _ (fun q => by rw [q] at e; exact nDt xs e) e
          repeat tb_rel
          refine ⟨rfl, ga, R₁₁, M₁₁, F₁₁, Ls₁₁, B₁₁, D, ys', recs', S₁₁, sw.inv, ?_, sD _ _ (Ne.symm nDc) hc₈, gr, nDh, nDl, nDc, sub₁₁ _ _ (upd_self _ _ _), ays₈.mono (RecIs.mono tD), pk, fun r hr => hk r (sl'.subset hr), ?_, ?_⟩
          · obtain ⟨xs, L, e1, e2, e3⟩ := hh₈
            exact ⟨xs, L, sD _ _ (Ne.symm nDh) e1, ⟨sD _ _ (Ne.symm nDl) e2.c, e2.i, e2.l, e2.h⟩, e3⟩
          · refine ko₅.low fun k hk => ?_
            rw [sw.low k hk, mk.k k fun r hr => ?_]
            obtain ⟨b, hb, e1, e2, ⟨o1, o2, o3⟩⟩ := key_block I₅ hkey hr
            omega
          · have := sl'.length_le; omega
    · repeat tb_rel
      exact ⟨rfl, by with_unfolding_all rfl, R₆, M₅, F₅, Ls₅, B₅, lr, rs, recs, S₆, I₅, hh₆, hc₆, by with_unfolding_all rfl, nlrh, nlrl, nlrc, hrs₆, ar₆, pr, hk, ko₅, by omega⟩
  · rintro _ m H ⟨rfl, ga, R, M, F, Ls, B, l, rs, recs, S, I, hh, hc, gr, nh, ncl', ncc, hrs, ar, pr, hk, ko, hln⟩
    repeat tb_rel
    have hlenr := ar.len
    have blk : ∀ r ∈ recs, ∃ b ∈ B, b.a = r.t - 8 ∧ b.d = some r.a ∧ b.n = bsz r.w ∧ 1032 ≤ r.t ∧ r.t - 8 + bsz r.w ≤ 8192 ∧ 16 ≤ bsz r.w := fun r hr => by
      obtain ⟨b, hb, h1, h2⟩ := mem_usedOf.mp (pr.mem_iff.mp (List.mem_map.mpr ⟨r, hr, rfl⟩))
      have ob := I.ok b hb
      have hh := ob.h
      unfold Head at hh
      have h1' : b.a = r.t - 8 := h1
      have h2' : b.d = some r.a := h2
      rw [h2'] at hh
      have hw := (ko _ (hk r hr)).2.1
      have hw' : M (r.a / 4) = r.w := hw
      have hn : b.n = bsz r.w := by rw [hh.2.2, hw']
      obtain ⟨o1, o2, o3⟩ := ob.a
      have o4 := ob.n
      have o5 := ob.l
      exact ⟨b, hb, h1', h2', hn, by omega, by omega, by omega⟩
    refine w_Dict fun d hdn => ?_
    have S₁ := S.new (ao := .map fun _ => none) hdn
    have Rd := S.fresh hdn
    have nd : d ≠ l := fun q => by rw [q, hrs] at Rd; cases Rd
    have ndh : d ≠ hd := fun q => by obtain ⟨L, e⟩ := hh.is; rw [q, e] at Rd; cases Rd
    have ndl : d ≠ cl := fun q => by obtain ⟨L, e⟩ := hh.cs; rw [q, e] at Rd; cases Rd
    have ndc : d ≠ c := fun q => by rw [q, hc] at Rd; cases Rd
    have hrs₁ : upd R d (.map fun _ => none) l = some (.list rs) := by rw [upd_ne (Ne.symm nd)]; exact hrs
    have nlt : ∀ xs, R l ≠ some (.tup xs) := fun xs => by rw [hrs]; intro e; cases e
    have tsub : ∀ f, TupSub R (upd (del R l) d (.map f)) := fun f => (TupSub.del nlt).trans (Sub.new (by rw [del_ne nd]; exact Rd)).tup
    repeat tb_rel
    refine for_list (S₁.get hrs₁) (.inr ⟨⟨_, _, _, rfl⟩, fun v hv => by obtain ⟨b, _, t, _, _, e, _⟩ := ar.mem hv; exact ⟨t, e⟩⟩)
      (fun i m H => m "area" = some (.ref y.hp) ∧ m "due" = some (.ref d) ∧ ∃ f, HS 196 108 y (upd (del R l) d (.map f)) M F 1024 (1024 + 16 * (2 + p0)) H ∧ DueOk (recs.take i) f)
      ⟨by with_unfolding_all assumption, by with_unfolding_all rfl, fun _ => none, (S₁.del hrs₁).less (fun b ao e => ?_), ⟨fun _ _ h => (nomatch h), fun _ h => (nomatch h)⟩⟩ ?_ ?_
    · by_cases q : b = d
      · subst q; rw [upd_self] at e; rw [del_ne nd, upd_self]; exact e
      · rw [upd_ne q] at e
        obtain ⟨e1, e2⟩ := del_of e
        rw [del_ne e2, upd_ne q]; exact e1
    · rintro i v h m H₂ hv ⟨ga, gd, f, S₂, dk⟩
      obtain ⟨rc, hrc, t, tt, kv, rfl, ht, t', ta, tw, o, rfl, ht'⟩ := ar.get hv
      obtain ⟨b, hb, e1, e2, e3, e4, e5, e6⟩ := blk rc (List.mem_of_getElem? hrc)
      have etk : recs.take (i + 1) = recs.take i ++ [rc] := by rw [List.take_add_one, hrc]; rfl
      refine w_unpack2 (S₂.get (tsub f _ _ ht)) ?_
      repeat tb_rel
      refine w_callB (by intro _ e; cases e) ?_ (by kernel_rfl) (by kernel_rfl)
      repeat tb_rel
      refine w_callK (fn_lblock hX).k ?_ (by kernel_rfl) (by kernel_rfl)
      repeat tb_rel
      refine w_subT (S₂.get (tsub f _ _ ht')) (by decide) (by decide) (by rfl) ?_ (by with_unfolding_all rfl)
      repeat tb_rel
      refine w_call (c_lblock hX (r := rc.w) fun tb => ?_) (by decide)
      repeat tb_rel
      refine w_range2 fun r hr => ?_
      have S₃ := S₂.add (ao := .rng rc.t (rc.t - 8 + bsz rc.w) 1) hr
      refine for_range (upd_self _ _ _) (r_small (by omega) (by omega) (by omega) (by omega) (.inr (by decide)) (by decide)) (bsz rc.w - 8).toNat (by rw [rs_one (by omega)]; omega)
        (fun j m H => m "area" = some (.ref y.hp) ∧ m "due" = some (.ref d) ∧ m "where" = some (.int rc.t tt) ∧ HS 196 108 y (upd (del R l) d (.map (dueF f rc.t j (.int rc.t tt)))) M F 1024 (1024 + 16 * (2 + p0)) H)
        ⟨by with_unfolding_all assumption, by with_unfolding_all assumption, by with_unfolding_all rfl, by rw [dueF_zero]; exact S₃⟩ (fun j tj h m H hj hJ => ?_) (fun m H hJ => ?_) (by rfl) (by rfl) (by with_unfolding_all rfl)
      · obtain ⟨ga, gd, gw, S₄⟩ := hJ
        repeat tb_rel
        refine w_dset (B := 8192) (S₄.get (upd_self _ _ _)) (fun k hk' => ?_) (by rw [sizeLine_eq]; decide) ?_
        · unfold dueF at hk'
          split at hk'
          · omega
          · cases hf : f k with
            | none => exact absurd hf hk'
            | some u =>
              obtain ⟨r', hr', _, h1, h2⟩ := dk.a k u hf
              obtain ⟨_, _, _, _, _, g1, g2, g3⟩ := blk r' (List.mem_of_mem_take hr')
              omega
        · have S₅ := S₄.set (ao := .map fun x => if x = rc.t + (j : Int) * 1 then some (.int rc.t tt) else dueF f rc.t j (.int rc.t tt) x) (upd_self _ _ _)
          rw [upd_upd, dueF_succ] at S₅
          rw [dueF_succ]
          repeat tb_rel
          exact ⟨ga, gd, gw, S₅⟩
      · obtain ⟨ga, gd, gw, S₄⟩ := hJ
        repeat tb_rel
        exact ⟨ga, gd, _, S₄, by rw [etk]; exact dk.snoc rc tt (by omega)⟩
    · rintro m H₂ ⟨ga, gd, f, S₂, dk⟩ hln'
      rw [show recs.take rs.length = recs by rw [hlenr]; exact List.take_length] at dk
      have S₃ := S₂.add (ao := .list rs) hln'
      have hcR : upd (del R l) d (.map f) c = some (.cell (some (.ref hd))) := by rw [upd_ne (Ne.symm ndc), del_ne (Ne.symm ncc)]; exact hc
      have hh₃ : HandIs hd cl (upd (del R l) d (.map f)) := hh.keep (by rw [upd_ne (Ne.symm ndh), del_ne (Ne.symm nh)]) (by rw [upd_ne (Ne.symm ndl), del_ne (Ne.symm ncl')])
      have hcH := S₃.get hcR
      have hdR : upd (del R l) d (.map f) d = some (.map f) := upd_self _ _ _
      generalize upd (del R l) d (.map f) = R₃ at *
      repeat tb_rel
      refine w_callK (fn_pick hX).k ?_ (by kernel_rfl) (by kernel_rfl)
      repeat tb_rel
      refine w_call (c_pick hX hh₃ (fun b ao e => S₃.get e) (by decide) (by decide) fun x0 tx L₄ x1 x2 hh₄ => ?_) (by decide)
      have S₄ := S₃.set (ao := .list L₄) (hh₃.is.choose_spec)
      have hdR₄ : upd R₃ hd (.list L₄) d = some (.map f) := by rw [upd_ne ndh]; exact hdR
      generalize upd R₃ hd (.list L₄) = R₄ at *
      obtain ⟨t1, t2, fl, vs', j2, j3, j4, j5⟩ := S₄.hd
      repeat tb_rel
      refine w_callB (by intro _ e; cases e) ?_ (by kernel_rfl) (by kernel_rfl)
      repeat tb_rel
      refine w_field (gH_start hX) S₄.hp j2 (by rfl) (by rfl) ?_
      repeat tb_rel
      refine w_field (gH_limit hX) S₄.hp j2 (by rfl) (by rfl) ?_
      repeat tb_rel
      refine w_range3 (by omega) (noPylong_of (by omega) (by omega)) fun r hr => ?_
      have S₅ := S₄.add (ao := .rng (1024 - 9) (1024 + 16 * (2 + p0) + 9) (2 + x0)) hr
      refine for_range (upd_self _ _ _) (r_small (by omega) (by omega) (by omega) (by omega) (.inr (by omega)) (by omega)) _ rfl
        (fun j m H => m "area" = some (.ref y.hp) ∧ m "due" = some (.ref d) ∧ HS 196 108 y R₄ M F 1024 (1024 + 16 * (2 + p0)) H)
        ⟨by with_unfolding_all assumption, by with_unfolding_all assumption, S₅⟩ (fun j tj h m H hj hJ => ?_) (fun m H hJ => ?_) (by rfl) (by rfl) (by with_unfolding_all rfl)
      · obtain ⟨ga, gd, S₆⟩ := hJ
        obtain ⟨t1', t2', fl', vs'', l2, l3, l4, l5⟩ := S₆.hd
        repeat tb_rel
        refine w_meth (mH_block_of hX) S₆.hp l2 (by rfl) ?_
        refine w_callK (mH_block_of hX).k ?_ (by kernel_rfl) (by kernel_rfl)
        repeat tb_rel
        refine w_call (c_blockof hX S₆ I fun tb => ?_) (by decide)
        repeat tb_rel
        refine w_mDict (S₆.get hdR₄) PySem.F.slot_dict_get PySem.F.type_dict_get ?_
        refine w_callB (by intro _ e; cases e) ?_ (by kernel_rfl) (by kernel_rfl)
        repeat tb_rel
        rename_i t00
        refine w_dget (S₆.get hdR₄) ?_
        obtain ⟨tg, eg⟩ := due_get I (fun x => pr.mem_iff) (fun r hr => (ko _ (hk r hr)).2.1) dk (1024 - 9 + (j : Int) * (2 + x0)) t00
        rw [eg]
        repeat tb_rel
        refine if_bne (fun h => absurd rfl h) (fun _ => ?_)
        repeat tb_rel
        exact ⟨ga, gd, S₆⟩
      · repeat tb_rel
        rfl
end
end
section
theorem fin {w : World} {s₁ : Shared} {mg mb : Loc} {fa l : Addr} {vs : List Value} {ns : List Int} {mean : ExcName → Option Value}
    {cl : Str → Option Addr} (KX : (hd.heap_39 w.params).In s₁.heap) (T : Top hd.view_39 (looseW hd.view_39 []) mean mg mb s₁.heap)
    (hmg : mg (Str.ofString "law") = some (.ref fa)) (hg : s₁.gens = #[]) (hl : s₁.heap.IsList l vs.toArray) (hi : IntsAre vs ns) (hn : ns.length ≤ 63) :
    codeAny (model PySem.Challenge.rw_nu0322_03.row.prog w) callerA (Code.call (.ref fa) { pos := [.ref l] })
      (GoodWG PySem.Challenge.rw_nu0322_03.row.claim cl mean [ofPy (PyData.list (List.map PyData.int ns))] s₁) s₁ := by
  have hX : IsK ⟨PySem.Challenge.rw_nu0322_03.row.prog, w, hd.heap_39 w.params, hd.view_39, looseW hd.view_39 [], mg, mb⟩ := rfl
  have g : Grd ⟨PySem.Challenge.rw_nu0322_03.row.prog, w, hd.heap_39 w.params, hd.view_39, looseW hd.view_39 [], mg, mb⟩ s₁.heap := ⟨KX, topRead_of T⟩
  have e : mg (Str.ofString "law") = some (.ref 245) := mg_of (K := hd.heap_39 w.params) KX T.g rfl
  have ef : fa = 245 := by
    rw [hmg] at e
    exact Value.ref.inj (Option.some.inj e)
  subst ef
  refine codeAny_mono (c_law hX (A := callerA) ⟨rfl, by decide, by decide⟩ g (Keep.refl _) (Nat.le_refl _) hl hi hn) ?_
  rintro r s' ⟨v, H', rfl, sm, kp, _, rfl⟩
  refine GoodW.toG ⟨.inl ⟨.bool true, .bool true, [], rfl, fun _ => rfl, .bool _, (by kernel_rfl), fun _ => ⟨List.nodup_nil, fun _ h => nomatch h⟩⟩, kp, ?_, ?_⟩
  · obtain ⟨h, tk, rfl⟩ := sm; rfl
  · obtain ⟨h, tk, rfl⟩ := sm; exact hg
end
end Mine
set_option maxRecDepth 100000 in
set_option maxHeartbeats 8000000 in
theorem PySem.Challenge.cw_nu0322_03_holds : PySem.Challenge.rw_nu0322_03.Holds := by
  exact Mine.hd (by
    k_fill
    intro w s₀ s₁ mg mb G Y fa o pm cd doc dV kV ho hd hcd hD hmg hg args vals as hpre hlay hrd hwl hlo
    have KX := kIn_of Y
    refine Ground.open G ?_
    intro T B D TE TW
    wrow_args hpre hlay hrd hwl hlo
    all_goals (first | refine callC_kw (enter_call ?_) | refine enter_call ?_)
    exact Mine.fin KX T hmg hg (by assumption) (by assumption) (by omega))
