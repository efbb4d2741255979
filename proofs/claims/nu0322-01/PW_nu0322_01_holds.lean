import PyProof.Rows.All
import Wide.All
import OpenK.AllK
import Wide.FinOn
import KE.KSortTup
import PySem.Challenge.RW_nu0322_01
open PySem PySem.W PyProof.Rows
set_option Elab.async false
set_option compiler.extract_closed false
namespace Mine
open PySem.Calls PySem.Spec
/-- what is known of an object -/
inductive AO where
  | list (xs : List Value)
  | tup (xs : List Value)
  | map (f : Int → Option Value)
  | inst (C dx : Addr)
  | ns (m : Str → Option Value) (n : Nat)
  | cell (v : Option Value)
  | rng (a b c : Int)
/-- an int-keyed dict's entries bear each key once -/
def KeysOnce (es : Array DictEntry) : Prop := es.toList.Pairwise fun a b => ∀ k, Value.isInt k a.key = true → Value.isInt k b.key = false
def AO.Is : AO → Obj → Prop
  | .list xs, o => ∃ n, o = { cls := .type "list", data := .seq xs.toArray n }
  | .tup xs, o => ∃ n, o = { cls := .type "tuple", data := .seq xs.toArray n }
  | .map f, o => ∃ es ep, o = { cls := .type "dict", data := .dict es ep } ∧ IntKeys es ∧ (∀ k, findBy Value.isInt es k = f k) ∧ KeysOnce es
  | .inst C dx, o => o = instObj C dx
  | .ns m n, o => ∃ es k, o = dictOf es k ∧ StrKeys es.toArray ∧ (∀ x, nsFind es.toArray x = m x) ∧ es.length ≤ n
  | .cell v, o => o.data = .cell v
  | .rng a b c, o => ∃ t u v, o = { cls := .type "range", data := .fields #[.int a t, .int b u, .int c v] }
theorem AO.Is.nf {ao : AO} {o : Obj} (h : ao.Is o) : o.isFreed = false := by
  cases ao with
  | list xs => obtain ⟨n, rfl⟩ := h; rfl
  | tup xs => obtain ⟨n, rfl⟩ := h; rfl
  | map f => obtain ⟨es, ep, rfl, _⟩ := h; rfl
  | inst C dx => cases h; rfl
  | ns m n => obtain ⟨es, k, e, _⟩ := h; cases e; rfl
  | cell v => obtain ⟨c, d, dt, sl⟩ := o; dsimp only [AO.Is] at h; subst h; rfl
  | rng a b c => obtain ⟨t, u, v, rfl⟩ := h; rfl
abbrev Loc := Str → Option Value
abbrev Hp := Addr → Option AO
def upd (H : Hp) (a : Addr) (ao : AO) : Hp := fun b => if b = a then some ao else H b
theorem upd_self (H : Hp) (a : Addr) (ao : AO) : upd H a ao a = some ao := by unfold upd; rw [if_pos rfl]
theorem upd_ne {H : Hp} {a b : Addr} {ao : AO} (h : b ≠ a) : upd H a ao b = H b := by unfold upd; rw [if_neg h]
def setm (m : Loc) (x : Str) (v : Value) : Loc := fun y => if y = x then some v else m y
structure Fx where
  prog : Program
  w : World
  K : Frag
  p : Program
  loose : List Str
  mg : Loc
  mb : Loc
structure Grd (X : Fx) (h : Heap) : Prop where
  k : X.K.In h
  t : TopRead X.p X.loose X.mg X.mb h
def Keep (h h' : Heap) : Prop := ∀ b o, h.get? b = some o → h'.get? b = some o
theorem Keep.refl (h : Heap) : Keep h h := fun _ _ e => e
theorem Keep.trans {a b c : Heap} (x : Keep a b) (y : Keep b c) : Keep a c := fun _ _ e => y _ _ (x _ _ e)
theorem Keep.push {a b : Heap} (x : Keep a b) (o : Obj) : Keep a (b.push o) := fun _ _ e => Heap.get?_push_of_some o (x _ _ e)
theorem Grd.keep {X : Fx} {h h' : Heap} (g : Grd X h) (k : Keep h h') : Grd X h' := ⟨g.k.keeps k, g.t.keeps k⟩
def HIn (h₀ : Heap) (H : Hp) (h : Heap) : Prop := ∀ a ao, H a = some ao → ∃ o, h.get? a = some o ∧ ao.Is o ∧ h₀.get? a = none
def Same (s s' : Shared) : Prop := ∃ h tk, s' = { s with heap := h, toks := tk }
theorem Same.refl (s : Shared) : Same s s := ⟨s.heap, s.toks, rfl⟩
theorem Same.to {s s' : Shared} (x : Same s s') (h : Heap) (tk : Nat) : Same s { s' with heap := h, toks := tk } := by
  obtain ⟨_, _, rfl⟩ := x; exact ⟨h, tk, rfl⟩
theorem Same.trans {a b c : Shared} (x : Same a b) (y : Same b c) : Same a c := by
  obtain ⟨_, _, rfl⟩ := x; obtain ⟨h, tk, rfl⟩ := y; exact ⟨h, tk, rfl⟩
structure Cx where
  A : Around
  hb : Heap
  h₀ : Heap
  L : Addr
  s₀ : Shared
structure AOk (A : Around) (n : Nat) : Prop where
  h : A.handled = none
  d : A.depth + 3 * n < 1000
  u : A.units + 20 * n < 9900
theorem AOk.le {A : Around} {n k : Nat} (a : AOk A n) (h : k ≤ n) : AOk A k := ⟨a.h, by have := a.d; omega, by have := a.u; omega⟩
theorem AOk.deeper {A : Around} {n : Nat} (a : AOk A (n + 1)) (e : Env) : AOk (A.deeper e) n :=
  ⟨a.h, by have := a.d; rw [depth_deeper]; omega, by have := a.u; rw [units_deeper]; omega⟩
theorem AOk.room {A : Around} {n : Nat} (a : AOk A n) : A.depth < recursionLimit := by have := a.d; unfold recursionLimit; omega
structure St (X : Fx) (C : Cx) (m : Loc) (H : Hp) (s : Shared) : Prop where
  g : Grd X C.hb
  fr : Fr C.hb C.L s.heap m
  bb : Keep C.hb C.h₀
  kp : Keep C.h₀ s.heap
  nl : C.h₀.get? C.L = none
  hin : HIn C.h₀ H s.heap
  lh : ∀ a ao, H a = some ao → a ≠ C.L
  same : Same C.s₀ s
section
variable {X : Fx} {C : Cx} {m : Loc} {H : Hp} {s : Shared}
theorem St.grd (S : St X C m H s) : Grd X s.heap := S.g.keep S.fr.keep
theorem St.k (S : St X C m H s) : X.K.In s.heap := S.grd.k
theorem St.at (S : St X C m H s) {a : Addr} {ao : AO} (h : H a = some ao) : ∃ o, s.heap.get? a = some o ∧ ao.Is o := let ⟨o, e, i, _⟩ := S.hin a ao h; ⟨o, e, i⟩
theorem St.off (S : St X C m H s) {a : Addr} {ao : AO} (h : H a = some ao) : C.h₀.get? a = none := let ⟨_, _, _, e⟩ := S.hin a ao h; e
theorem St.offb (S : St X C m H s) {a : Addr} {ao : AO} (h : H a = some ao) : C.hb.get? a = none := by
  cases q : C.hb.get? a with
  | none => rfl
  | some o => have := S.bb _ _ q; rw [S.off h] at this; cases this
/-- all is kept -/
theorem St.kept (S : St X C m H s) {h' : Heap} {tk : Nat} (k : Keep s.heap h') : St X C m H { s with heap := h', toks := tk } where
  g := S.g
  fr := ⟨S.fr.ns.keeps k, fun b o e => k b o (S.fr.keep b o e), S.fr.above⟩
  bb := S.bb
  kp := S.kp.trans k
  nl := S.nl
  hin := fun a ao e => let ⟨o, x, i, z⟩ := S.hin a ao e; ⟨o, k _ _ x, i, z⟩
  lh := S.lh
  same := S.same.to _ _
theorem St.toks (S : St X C m H s) (tk : Nat) : St X C m H { s with toks := tk } := S.kept (h' := s.heap) (Keep.refl _)
/-- one known object turns -/
theorem St.turn (S : St X C m H s) {a : Addr} {ao ao' : AO} {o' : Obj} {h' : Heap} {tk : Nat} (ha : H a = some ao) (k : Heap.ExtBut a s.heap h') (g : h'.get? a = some o') (i : ao'.Is o') :
    St X C m (upd H a ao') { s with heap := h', toks := tk } where
  g := S.g
  fr := ⟨S.fr.ns.extBut k (Ne.symm (S.lh a ao ha)), fun b o e => k b o (fun q => by rw [q, S.offb ha] at e; cases e) (S.fr.keep b o e), S.fr.above⟩
  bb := S.bb
  kp := fun b o e => k b o (fun q => by rw [q, S.off ha] at e; cases e) (S.kp b o e)
  nl := S.nl
  hin := fun b bo e => by
    by_cases h : b = a
    · subst h; rw [upd_self] at e; cases e; exact ⟨o', g, i, S.off ha⟩
    · rw [upd_ne h] at e; obtain ⟨o, x, y, z⟩ := S.hin b bo e; exact ⟨o, k _ _ h x, y, z⟩
  lh := fun b bo e => by
    by_cases h : b = a
    · subst h; exact S.lh b ao ha
    · rw [upd_ne h] at e; exact S.lh b bo e
  same := S.same.to _ _
theorem St.none_of_size (S : St X C m H s) {b : Addr} (hb : s.heap.objs.size ≤ b) : C.h₀.get? b = none := by
  cases q : C.h₀.get? b with
  | none => rfl
  | some o => exact absurd (Heap.lt_size (S.kp b o q)) (Nat.not_lt.mpr hb)
theorem St.ne_of_size (S : St X C m H s) {b : Addr} (hb : s.heap.objs.size ≤ b) : b ≠ C.L := fun e => absurd S.fr.ns.lt (Nat.not_lt.mpr (e ▸ hb))
/-- a new object -/
theorem St.new (S : St X C m H s) {a : Addr} {ao : AO} {o : Obj} {h' : Heap} {tk : Nat} (ha : s.heap.objs.size ≤ a) (k : Keep s.heap h') (g : h'.get? a = some o) (i : ao.Is o) :
    St X C m (upd H a ao) { s with heap := h', toks := tk } where
  g := S.g
  fr := ⟨S.fr.ns.keeps k, fun b o e => k b o (S.fr.keep b o e), S.fr.above⟩
  bb := S.bb
  kp := S.kp.trans k
  nl := S.nl
  hin := fun b bo e => by
    by_cases h : b = a
    · subst h; rw [upd_self] at e; cases e; exact ⟨o, g, i, S.none_of_size ha⟩
    · rw [upd_ne h] at e; obtain ⟨o, x, y, z⟩ := S.hin b bo e; exact ⟨o, k _ _ x, y, z⟩
  lh := fun b bo e => by
    by_cases h : b = a
    · subst h; exact S.ne_of_size ha
    · rw [upd_ne h] at e; exact S.lh b bo e
  same := S.same.to _ _
theorem St.push (S : St X C m H s) {ao : AO} {o : Obj} {tk : Nat} (i : ao.Is o) : St X C m (upd H s.heap.objs.size ao) { s with heap := s.heap.push o, toks := tk } :=
  S.new (Nat.le_refl _) ((Keep.refl _).push o) (Heap.get?_push_size _ i.nf) i
theorem St.fresh (S : St X C m H s) {b : Addr} (hb : s.heap.objs.size ≤ b) : H b = none := by
  cases q : H b with
  | none => rfl
  | some ao => obtain ⟨o, e, _⟩ := S.at q; exact absurd (Heap.lt_size e) (Nat.not_lt.mpr hb)
/-- the locals turn -/
theorem St.loc (S : St X C m H s) {m' : Loc} {h' : Heap} {tk : Nat} (hn : h'.Ns C.L m') (hs : Heap.SameBut C.L s.heap h') : St X C m' H { s with heap := h', toks := tk } where
  g := S.g
  fr := S.fr.set hn hs
  bb := S.bb
  kp := fun b o e => (hs.2 b (fun q => by rw [q, S.nl] at e; cases e)).trans (S.kp b o e)
  nl := S.nl
  hin := fun a ao e => let ⟨o, x, i, z⟩ := S.hin a ao e; ⟨o, (hs.2 a (S.lh a ao e)).trans x, i, z⟩
  lh := S.lh
  same := S.same.to _ _
/-- less is known -/
theorem St.less (S : St X C m H s) {H' : Hp} (h : ∀ a ao, H' a = some ao → H a = some ao) : St X C m H' s :=
  ⟨S.g, S.fr, S.bb, S.kp, S.nl, fun a ao e => S.hin a ao (h a ao e), fun a ao e => S.lh a ao (h a ao e), S.same⟩
end
/-- the triple -/
structure W {α : Type} (X : Fx) (n : Nat) (C : Cx) (t : Sem α) (m : Loc) (H : Hp) (Q : α → Loc → Hp → Prop) : Prop where
  go : ∀ E s, AOk C.A n → St X C m H s → wpAny (model X.prog X.w) C.A t (fun v s' => ∃ m' H', St X C m' H' s' ∧ Q v m' H') E s
theorem w_of {α : Type} {X : Fx} {n : Nat} {C : Cx} {m : Loc} {H : Hp} {t : Sem α} {Q : α → Loc → Hp → Prop} (h : ∀ E s, AOk C.A n → St X C m H s → wpAny (model X.prog X.w) C.A t (fun v s' => ∃ m' H', St X C m' H' s' ∧ Q v m' H') E s) : W X n C t m H Q := ⟨h⟩
/-- the contract of a call -/
structure Spec (X : Fx) (n : Nat) (f : Value) (args : List Value) (H : Hp) (Q : Value → Hp → Prop) : Prop where
  go : ∀ A h₀ s, AOk A n → Grd X h₀ → Keep h₀ s.heap → h₀.objs.size ≤ s.heap.objs.size → HIn h₀ H s.heap →
    codeAny (model X.prog X.w) A (.call f ⟨args, []⟩) (fun r s' => ∃ v H', r = .ok (.ret v) ∧ Same s s' ∧ Keep h₀ s'.heap ∧ HIn h₀ H' s'.heap ∧ Q v H') s
section
variable {α β : Type} {X : Fx} {n : Nat} {C : Cx} {m : Loc} {H : Hp}
theorem w_mono {t : Sem α} {Q Q' : α → Loc → Hp → Prop} (h : W X n C t m H Q) (q : ∀ v m' H', Q v m' H' → Q' v m' H') : W X n C t m H Q' :=
  w_of fun E s a S => wpAny_mono (h.go E s a S) (fun _ _ ⟨m', H', S', z⟩ => ⟨m', H', S', q _ _ _ z⟩) fun _ _ e => e
theorem spec_le {f : Value} {args : List Value} {k : Nat} {Q : Value → Hp → Prop} (h : Spec X k f args H Q) (l : k ≤ n) : Spec X n f args H Q :=
  ⟨fun A h₀ s a g k z i => h.go A h₀ s (a.le l) g k z i⟩
/-- hide what is known as turning -/
noncomputable def hideH (h : Heap) (H : Hp) : Heap := ⟨(h.objs.mapIdx fun i o => if (H i).isSome = true then (⟨o.cls, o.dict, .freed, o.slots⟩ : Obj) else o), h.life⟩
theorem hideH_size (h : Heap) (H : Hp) : (hideH h H).objs.size = h.objs.size := by unfold hideH; simp
theorem hideH_obj (h : Heap) (H : Hp) (b : Addr) : (hideH h H).objs[b]? = (h.objs[b]?).map fun o => if (H b).isSome = true then (⟨o.cls, o.dict, .freed, o.slots⟩ : Obj) else o := by
  unfold hideH
  simp only [Array.getElem?_mapIdx]
theorem hideH_get {h : Heap} {H : Hp} {b : Addr} {o : Obj} (e : h.get? b = some o) (n : H b = none) : (hideH h H).get? b = some o := by
  obtain ⟨e1, e2⟩ := Heap.get?_some_iff.mp e
  refine Heap.get?_some_iff.mpr ⟨?_, e2⟩
  rw [hideH_obj, e1, n]; rfl
theorem hideH_of {h : Heap} {H : Hp} {b : Addr} {o : Obj} (e : (hideH h H).get? b = some o) : h.get? b = some o := by
  obtain ⟨e1, e2⟩ := Heap.get?_some_iff.mp e
  rw [hideH_obj] at e1
  obtain ⟨o', h1, h2⟩ := Option.map_eq_some_iff.mp e1
  split at h2
  · subst h2; cases e2
  · subst h2; exact Heap.get?_some_iff.mpr ⟨h1, e2⟩
theorem hideH_none {h : Heap} {H : Hp} {b : Addr} {ao : AO} (n : H b = some ao) : (hideH h H).get? b = none := by
  cases q : (hideH h H).get? b with
  | none => rfl
  | some o =>
    obtain ⟨e1, e2⟩ := Heap.get?_some_iff.mp q
    rw [hideH_obj, n] at e1
    obtain ⟨o', h1, h2⟩ := Option.map_eq_some_iff.mp e1
    simp only [Option.isSome_some, if_true] at h2
    subst h2; cases e2
theorem w_call {f : Value} {args : List Value} {k : Nat} {Q : Value → Loc → Hp → Prop} (h : Spec X k f args H (fun v H' => Q v m H')) (l : k ≤ n) : W X n C (call f args) m H Q := w_of fun E s a S => by
  have nk : ∀ b o, C.h₀.get? b = some o → H b = none := fun b o e => by
    cases q : H b with
    | none => rfl
    | some ao => rw [S.off q] at e; cases e
  have kp : Keep C.h₀ (hideH s.heap H) := fun b o e => hideH_get (S.kp b o e) (nk b o e)
  obtain ⟨oL, es, ep, hL, r⟩ := S.fr.ns
  have nL : H C.L = none := by
    cases q : H C.L with
    | none => rfl
    | some ao => exact absurd rfl (S.lh _ _ q)
  refine wpAny_call (codeAny_mono (h.go C.A (hideH s.heap H) s (a.le l) (S.g.keep (S.bb.trans kp)) (fun _ _ e => hideH_of e) (Nat.le_of_eq (hideH_size _ _)) (fun b bo e => ?_)) fun r' s' z => ?_)
  · obtain ⟨o, x, i⟩ := S.at e; exact ⟨o, x, i, hideH_none e⟩
  · obtain ⟨v, H', rfl, sm, kp', hi, q⟩ := z
    refine ⟨m, H', ⟨S.g, ⟨⟨oL, es, ep, kp' _ _ (hideH_get hL nL), r⟩, fun b o e => kp' _ _ (kp b o (S.bb _ _ e)), S.fr.above⟩, S.bb, fun b o e => kp' _ _ (kp b o e), S.nl, fun b bo e => ?_, fun b bo e eq => ?_, S.same.trans sm⟩, q⟩
    · obtain ⟨o, x, i, z⟩ := hi b bo e
      refine ⟨o, x, i, ?_⟩
      cases q' : C.h₀.get? b with
      | none => rfl
      | some o' => rw [kp b o' q'] at z; cases z
    · obtain ⟨o, x, i, z⟩ := hi b bo e
      subst eq
      rw [hideH_get hL nL] at z; cases z
/-- the heap less what turns: known objects and the locals -/
noncomputable def hideL (h : Heap) (H : Hp) (L : Addr) : Heap := hideH h (upd H L (.cell none))
/-- a stretch of the walk under a larger base: what stands beside the known objects is kept -/
theorem St.base (S : St X C m H s) : St X { C with h₀ := hideL s.heap H C.L } m H s where
  g := S.g
  fr := S.fr
  bb := fun b o e => hideH_get (S.fr.keep b o e) (by
    have h1 := S.bb _ _ e
    by_cases h : b = C.L
    · subst h; rw [S.nl] at h1; cases h1
    · rw [upd_ne h]
      cases q : H b with
      | none => rfl
      | some ao => rw [S.off q] at h1; cases h1)
  kp := fun _ _ e => hideH_of e
  nl := hideH_none (upd_self _ _ _)
  hin := fun a ao e => let ⟨o, x, i, _⟩ := S.hin a ao e; ⟨o, x, i, hideH_none (ao := ao) (by rw [upd_ne (S.lh a ao e)]; exact e)⟩
  lh := S.lh
  same := S.same
theorem St.unbase {h : Heap} {m' : Loc} {H' : Hp} {s' : Shared} (S : St X C m H s) (k : Keep C.h₀ h) (S' : St X { C with h₀ := h } m' H' s') : St X C m' H' s' where
  g := S'.g
  fr := S'.fr
  bb := S.bb
  kp := k.trans S'.kp
  nl := S.nl
  hin := fun a ao e => by
    obtain ⟨o, x, i, z⟩ := S'.hin a ao e
    refine ⟨o, x, i, ?_⟩
    cases q : C.h₀.get? a with
    | none => rfl
    | some o' => have := k _ _ q; rw [z] at this; cases this
  lh := S'.lh
  same := S'.same
theorem St.in_base (S : St X C m H s) : Keep C.h₀ (hideL s.heap H C.L) := fun b o e => hideH_get (S.kp b o e) (by
  by_cases h : b = C.L
  · subst h; rw [S.nl] at e; cases e
  · rw [upd_ne h]
    cases q : H b with
    | none => rfl
    | some ao => rw [S.off q] at e; cases e)
end
end Mine
namespace Mine
open PySem.Calls PySem.Spec
section
variable {X : Fx} {n : Nat} {C : Cx} {m : Loc} {H : Hp} {env : Env}
/-! names -/
theorem w_local {x : Str} {pos : Pos} {v : Value} {Q : Value → Loc → Hp → Prop} (hv : m x = some v) (q : Q v m H)
    (hL : env.locals = C.L := by kernel_rfl) (hk : env.scope.kind = .function := by kernel_rfl) (hl : env.kindOf x = some .local := by kernel_rfl) (hd : (x == ("__debug__" : Str)) = false := by kernel_rfl) :
    W X n C (eval (.Name x pos) env) m H Q := w_of fun _ _ _ S => wpAny_Name (wpAny_loadName_local hk hl (hL ▸ S.fr.ns) hv ⟨m, H, S, q⟩) hd
theorem w_loadLocal {x : Str} {v : Value} {Q : Value → Loc → Hp → Prop} (hv : m x = some v) (q : Q v m H)
    (hL : env.locals = C.L := by kernel_rfl) (hk : env.scope.kind = .function := by kernel_rfl) (hl : env.kindOf x = some .local := by kernel_rfl) :
    W X n C (loadName env x) m H Q := w_of fun _ _ _ S => wpAny_loadName_local hk hl (hL ▸ S.fr.ns) hv ⟨m, H, S, q⟩
theorem w_cell {x : Str} {pos : Pos} {c : Addr} {v : Value} {Q : Value → Loc → Hp → Prop} (hc : env.cells.lookup x = some c) (hv : H c = some (.cell (some v))) (q : Q v m H)
    (hk : env.scope.kind = .function := by kernel_rfl) (hl : env.kindOf x = some .cell := by kernel_rfl) (hd : (x == ("__debug__" : Str)) = false := by kernel_rfl) :
    W X n C (eval (.Name x pos) env) m H Q := w_of fun _ _ _ S => by
  obtain ⟨o, ho, i⟩ := S.at hv
  exact wpAny_Name (wpAny_loadName_cell hk hl hc ⟨o, ho, i⟩ ⟨m, H, S, q⟩) hd
theorem w_global {x : Str} {pos : Pos} {v : Value} {Q : Value → Loc → Hp → Prop} (e : nsIn X.K mainGlobals x = some (some v)) (q : Q v m H)
    (hG : env.globals = mainGlobals := by kernel_rfl) (hk : env.scope.kind = .function := by kernel_rfl) (hl : env.kindOf x = some .globalImplicit := by kernel_rfl) (hd : (x == ("__debug__" : Str)) = false := by kernel_rfl) :
    W X n C (eval (.Name x pos) env) m H Q := w_of fun _ _ _ S =>
  Name_function_global hk hl (loadGlobal_global (hG ▸ (S.g.t.g.keeps S.fr.keep)) (mg_of S.g.k S.g.t.g e) ⟨m, H, S, q⟩) hd
theorem w_builtin {x : Str} {pos : Pos} {v : Value} {Q : Value → Loc → Hp → Prop} (e : nsIn X.K mainGlobals x = some none) (hv : bootBuiltins x = some v) (q : Q v m H)
    (hx : x ≠ "__name__" := by decide) (hG : env.globals = mainGlobals := by rfl) (hB : env.builtins = builtinsNs := by rfl) (hk : env.scope.kind = .function := by rfl) (hl : env.kindOf x = some .globalImplicit := by rfl)
    (hd : (x == ("__debug__" : Str)) = false := by decide) :
    W X n C (eval (.Name x pos) env) m H Q := w_of fun _ _ _ S =>
  Name_function_global hk hl (loadGlobal_builtin (hG ▸ (S.g.t.g.keeps S.fr.keep)) (mg_none_of S.g.k S.g.t.g e) (hB ▸ (S.g.t.b.keeps S.fr.keep)) ((S.g.t.builtins x hx).trans hv) ⟨m, H, S, q⟩) hd
theorem w_store {x : Str} {v : Value} {Q : Unit → Loc → Hp → Prop} (q : Q () (setm m x v) H)
    (hL : env.locals = C.L := by kernel_rfl) (hk : env.scope.kind = .function := by kernel_rfl) (hl : env.kindOf x = some .local := by with_unfolding_all rfl) : W X n C (storeName env x v) m H Q := w_of fun _ _ _ S =>
  wpAny_storeName_local hl (hL ▸ S.fr.ns) (fun h' hn hs => ⟨_, H, S.loc (hL ▸ hn) (hL ▸ hs), q⟩) (by rw [hk]; rfl)
theorem w_storeCell {x : Str} {v : Value} {v₀ : Option Value} {c : Addr} {Q : Unit → Loc → Hp → Prop} (hc : env.cells.lookup x = some c) (hv : H c = some (.cell v₀)) (q : Q () m (upd H c (.cell (some v))))
    (hk : env.scope.kind = .function := by kernel_rfl) (hl : env.kindOf x = some .cell := by kernel_rfl) : W X n C (storeName env x v) m H Q := w_of fun _ s _ S => by
  obtain ⟨o, ho, i⟩ := S.at hv
  refine wpAny_storeName_cell hk hl hc ⟨o, ho, i⟩ fun h' hn hs => ?_
  obtain ⟨o', ho', hd'⟩ := hn
  exact ⟨m, _, S.turn (ao' := .cell (some v)) (tk := s.toks) hv hs.extBut ho' hd', q⟩
/-! constants -/
theorem w_int {i : Int} {k : Nat} {pos : Pos} {Q : Value → Loc → Hp → Prop} (q : ∀ t, Q (.int i t) m H) : W X n C (eval (.Constant (.int i) k pos) env) m H Q :=
  w_of fun _ _ _ S => wpAny_Constant_int ⟨m, H, S.toks _, q _⟩
theorem w_none {k : Nat} {pos : Pos} {Q : Value → Loc → Hp → Prop} (q : Q .none m H) : W X n C (eval (.Constant .none k pos) env) m H Q :=
  w_of fun _ _ _ S _ _ _ => ⟨m, H, S, q⟩
theorem w_bool {b : Bool} {k : Nat} {pos : Pos} {Q : Value → Loc → Hp → Prop} (q : Q (.bool b) m H) : W X n C (eval (.Constant (.bool b) k pos) env) m H Q :=
  w_of fun _ _ _ S _ _ _ => ⟨m, H, S, q⟩
/-! operators -/
theorem w_BinOp {l r : Expr} {op : Operator} {pos : Pos} {Q : Value → Loc → Hp → Prop}
    (h : W X n C (eval l env) m H (fun a m₁ H₁ => W X n C (eval r env) m₁ H₁ (fun b m₂ H₂ => W X n C (binaryOp op a b) m₂ H₂ Q))) : W X n C (eval (.BinOp l op r pos) env) m H Q :=
  w_of fun E s a S => wpAny_BinOp (wpAny_mono (h.go E s a S) (fun _ _ ⟨_, _, S₁, z⟩ => wpAny_mono (z.go E _ a S₁) (fun _ _ ⟨_, _, S₂, z⟩ => z.go E _ a S₂) fun _ _ e => e) fun _ _ e => e)
variable {a b : Int} {t u : Tok}
theorem w_add {Q : Value → Loc → Hp → Prop} (q : ∀ t, Q (.int (a + b) t) m H) : W X n C (binaryOp .Add (.int a t) (.int b u)) m H Q := w_of fun _ _ _ S => P.add_int ⟨m, H, S.toks _, q _⟩
theorem w_sub {Q : Value → Loc → Hp → Prop} (q : ∀ t, Q (.int (a - b) t) m H) : W X n C (binaryOp .Sub (.int a t) (.int b u)) m H Q := w_of fun _ _ _ S => P.sub_int ⟨m, H, S.toks _, q _⟩
theorem w_mul {Q : Value → Loc → Hp → Prop} (q : ∀ t, Q (.int (a * b) t) m H) (hm : IntMulOk a b) : W X n C (binaryOp .Mult (.int a t) (.int b u)) m H Q := w_of fun _ _ _ S => P.mul_int ⟨m, H, S.toks _, q _⟩ hm
theorem w_fdiv {Q : Value → Loc → Hp → Prop} (q : ∀ t, Q (.int (a.fdiv b) t) m H) (h0 : b ≠ 0) (hp : Builtin.divisionGoesByPylong a b = false) : W X n C (binaryOp .FloorDiv (.int a t) (.int b u)) m H Q :=
  w_of fun _ _ _ S => AutoIntOps.floordiv_1 (by simpa using h0) (by rw [hp]; decide) ⟨m, H, S.toks _, q _⟩
theorem w_fmod {Q : Value → Loc → Hp → Prop} (q : ∀ t, Q (.int (a.fmod b) t) m H) (h0 : b ≠ 0) : W X n C (binaryOp .Mod (.int a t) (.int b u)) m H Q :=
  w_of fun _ _ _ S => AutoIntOps.mod_1 (by simpa using h0) ⟨m, H, S.toks _, q _⟩
theorem w_iadd {Q : Value → Loc → Hp → Prop} (q : ∀ t, Q (.int (a + b) t) m H) : W X n C (inplaceOp .Add (.int a t) (.int b u)) m H Q := w_of fun _ _ _ S => P.iadd_int ⟨m, H, S.toks _, q _⟩
theorem w_neg {Q : Value → Loc → Hp → Prop} (q : ∀ t, Q (.int (-a) t) m H) : W X n C (unaryOp .USub (.int a t)) m H Q := w_of fun _ _ _ S => P.neg_int ⟨m, H, S.toks _, q _⟩
theorem w_UnaryOp {op : UnaryOp} {e : Expr} {pos : Pos} {Q : Value → Loc → Hp → Prop} (h : W X n C (eval e env) m H (fun v m₁ H₁ => W X n C (unaryOp op v) m₁ H₁ Q)) : W X n C (eval (.UnaryOp op e pos) env) m H Q :=
  w_of fun E s a S => wpAny_UnaryOp (wpAny_mono (h.go E s a S) (fun _ _ ⟨_, _, S₁, z⟩ => z.go E _ a S₁) fun _ _ e => e)
/-! comparisons -/
theorem w_Compare {l r : Expr} {op : CmpOp} {pos : Pos} {Q : Value → Loc → Hp → Prop}
    (h : W X n C (eval l env) m H (fun a m₁ H₁ => W X n C (eval r env) m₁ H₁ (fun b m₂ H₂ => W X n C (compareOp op a b) m₂ H₂ Q))) (hm : behindInMarks op r = false := by kernel_rfl) : W X n C (eval (.Compare l [op] [r] pos) env) m H Q :=
  w_of fun E s a S => wpAny_Compare1 (wpAny_mono (h.go E s a S) (fun _ _ ⟨_, _, S₁, z⟩ => wpAny_mono (z.go E _ a S₁) (fun _ _ ⟨_, _, S₂, z⟩ => z.go E _ a S₂) fun _ _ e => e) fun _ _ e => e) hm
theorem w_isCompare {l r : Expr} {op : CmpOp} {pos : Pos} {wh : Sem Value} {Q : Bool → Loc → Hp → Prop}
    (h : W X n C (eval l env) m H (fun a m₁ H₁ => W X n C (eval r env) m₁ H₁ (fun b m₂ H₂ => W X n C (compareOp op a b) m₂ H₂ (fun v m₃ H₃ => W X n C (truthy v) m₃ H₃ Q)))) (hm : behindInMarks op r = false := by kernel_rfl) :
    W X n C (isTrue (.Compare l [op] [r] pos) env wh) m H Q :=
  w_of fun E s a S => wpAny_isTrue_Compare1 (wpAny_mono (h.go E s a S) (fun _ _ ⟨_, _, S₁, z⟩ => wpAny_mono (z.go E _ a S₁) (fun _ _ ⟨_, _, S₂, z⟩ => wpAny_mono (z.go E _ a S₂) (fun _ _ ⟨_, _, S₃, z⟩ => z.go E _ a S₃) fun _ _ e => e) fun _ _ e => e) fun _ _ e => e) hm
theorem w_truthyB {b : Bool} {Q : Bool → Loc → Hp → Prop} (q : Q b m H) : W X n C (truthy (.bool b)) m H Q := w_of fun _ _ _ S => wpAny_truthy_bool ⟨m, H, S, q⟩
theorem w_eq {Q : Value → Loc → Hp → Prop} (q : Q (.bool (a == b)) m H) : W X n C (compareOp .Eq (.int a t) (.int b u)) m H Q := w_of fun _ _ _ S => P.eq_int ⟨m, H, S, q⟩
theorem w_ne {Q : Value → Loc → Hp → Prop} (q : Q (.bool (a != b)) m H) : W X n C (compareOp .NotEq (.int a t) (.int b u)) m H Q := w_of fun _ _ _ S => P.ne_int ⟨m, H, S, q⟩
theorem w_lt {Q : Value → Loc → Hp → Prop} (q : Q (.bool (decide (a < b))) m H) : W X n C (compareOp .Lt (.int a t) (.int b u)) m H Q := w_of fun _ _ _ S => P.lt_int ⟨m, H, S, q⟩
theorem w_gt {Q : Value → Loc → Hp → Prop} (q : Q (.bool (decide (a > b))) m H) : W X n C (compareOp .Gt (.int a t) (.int b u)) m H Q := w_of fun _ _ _ S => P.gt_int ⟨m, H, S, q⟩
theorem w_geq {Q : Value → Loc → Hp → Prop} (q : Q (.bool (decide (a ≥ b))) m H) : W X n C (compareOp .GtE (.int a t) (.int b u)) m H Q := w_of fun _ _ _ S => P.ge_int ⟨m, H, S, q⟩
/-- a test that is any other expression -/
theorem w_isValue {e : Expr} {wh : Sem Value} {Q : Bool → Loc → Hp → Prop} (h : W X n C wh m H (fun v m₁ H₁ => W X n C (truthy v) m₁ H₁ Q))
    (he : isTrue e env wh = (do let v ← wh; standAt e.pos; holding [v] (truthy v)) := by rfl) : W X n C (isTrue e env wh) m H Q := w_of fun E s a S => by
  rw [he]
  exact wpAny_bind (wpAny_mono (h.go E s a S) (fun _ _ ⟨_, _, S₁, z⟩ => wpAny_bind (wpAny_standAt (wpAny_holding (z.go E _ a S₁)))) fun _ _ e => e)
theorem w_isAnd {e : Expr} {rest : List Expr} {pos : Pos} {wh : Sem Value} {Q : Bool → Loc → Hp → Prop} (h : W X n C (allTrue .And (e :: rest) env) m H Q) : W X n C (isTrue (.BoolOp .And (e :: rest) pos) env wh) m H Q := h
theorem w_isOr {e : Expr} {rest : List Expr} {pos : Pos} {wh : Sem Value} {Q : Bool → Loc → Hp → Prop} (h : W X n C (allTrue .Or (e :: rest) env) m H Q) : W X n C (isTrue (.BoolOp .Or (e :: rest) pos) env wh) m H Q := h
theorem w_allNilAnd {Q : Bool → Loc → Hp → Prop} (q : Q true m H) : W X n C (allTrue .And [] env) m H Q := w_of fun _ _ _ S _ _ _ => ⟨m, H, S, q⟩
theorem w_allNilOr {Q : Bool → Loc → Hp → Prop} (q : Q false m H) : W X n C (allTrue .Or [] env) m H Q := w_of fun _ _ _ S _ _ _ => ⟨m, H, S, q⟩
theorem w_allAnd {e : Expr} {rest : List Expr} {Q : Bool → Loc → Hp → Prop} (h : W X n C (isTrue e env (eval e env)) m H (fun b m₁ H₁ => if b = true then W X n C (allTrue .And rest env) m₁ H₁ Q else Q false m₁ H₁)) : W X n C (allTrue .And (e :: rest) env) m H Q := w_of fun E s a S => by
  show wpAny _ _ (isTrue e env (eval e env) >>= _) _ _ _
  refine wpAny_bind (wpAny_mono (h.go E s a S) (fun b s' ⟨_, _, S₁, z⟩ => ?_) fun _ _ e => e)
  cases b with
  | true => exact (show W X n C (allTrue .And rest env) _ _ Q from z).go E s' a S₁
  | false => exact wpAny_pure ⟨_, _, S₁, z⟩
theorem w_allOr {e : Expr} {rest : List Expr} {Q : Bool → Loc → Hp → Prop} (h : W X n C (isTrue e env (eval e env)) m H (fun b m₁ H₁ => if b = true then Q true m₁ H₁ else W X n C (allTrue .Or rest env) m₁ H₁ Q)) : W X n C (allTrue .Or (e :: rest) env) m H Q := w_of fun E s a S => by
  show wpAny _ _ (isTrue e env (eval e env) >>= _) _ _ _
  refine wpAny_bind (wpAny_mono (h.go E s a S) (fun b s' ⟨_, _, S₁, z⟩ => ?_) fun _ _ e => e)
  cases b with
  | false => exact (show W X n C (allTrue .Or rest env) _ _ Q from z).go E s' a S₁
  | true => exact wpAny_pure ⟨_, _, S₁, z⟩
theorem w_IfExp {test body orelse : Expr} {pos : Pos} {Q : Value → Loc → Hp → Prop} (h : W X n C (isTrue test env (eval test env)) m H (fun b m₁ H₁ => if b = true then W X n C (eval body env) m₁ H₁ Q else W X n C (eval orelse env) m₁ H₁ Q)) :
    W X n C (eval (.IfExp test body orelse pos) env) m H Q := w_of fun E s a S => by
  show wpAny _ _ (isTrue test env (eval test env) >>= _) _ _ _
  refine wpAny_bind (wpAny_mono (h.go E s a S) (fun b s' ⟨_, _, S₁, z⟩ => ?_) fun _ _ e => e)
  cases b with
  | true => exact (show W X n C (eval body env) _ _ Q from z).go E s' a S₁
  | false => exact (show W X n C (eval orelse env) _ _ Q from z).go E s' a S₁
theorem w_is {a b : Value} {Q : Value → Loc → Hp → Prop} (hp : plainIs a b = true) (q : Q (.bool (a == b)) m H) : W X n C (compareOp .Is a b) m H Q := w_of fun _ _ _ S => wpAny_is_plain hp ⟨m, H, S, q⟩
theorem w_isNot {a b : Value} {Q : Value → Loc → Hp → Prop} (hp : plainIs a b = true) (q : Q (.bool (!(a == b))) m H) : W X n C (compareOp .IsNot a b) m H Q := w_of fun _ _ _ S => wpAny_isNot_plain hp ⟨m, H, S, q⟩
/-! statements -/
theorem w_nil {Q : Flow → Loc → Hp → Prop} (q : Q .next m H) : W X n C (execs [] env) m H Q := w_of fun _ _ _ S => wpAny_execs_nil ⟨m, H, S, q⟩
theorem w_cons {st : Stmt} {rest : List Stmt} {Q : Flow → Loc → Hp → Prop}
    (h : W X n C (exec st env) m H (fun f m₁ H₁ => match f with | .next => W X n C (execs rest env) m₁ H₁ Q | f => Q f m₁ H₁)) : W X n C (execs (st :: rest) env) m H Q := w_of fun E s a S => by
  refine wpAny_execs_cons (wpAny_mono (h.go E s a S) (fun f s' ⟨_, _, S₁, z⟩ => ?_) fun _ _ e => e)
  cases f with
  | next => exact z.go E s' a S₁
  | brk => exact ⟨_, _, S₁, z⟩
  | cont => exact ⟨_, _, S₁, z⟩
  | ret v => exact ⟨_, _, S₁, z⟩
theorem w_If {test : Expr} {body orelse : List Stmt} {pos : Pos} {Q : Flow → Loc → Hp → Prop}
    (h : W X n C (isTrue test env (eval test env)) m H (fun b m₁ H₁ => if b = true then W X n C (execs body env) m₁ H₁ Q else W X n C (execs orelse env) m₁ H₁ Q)) : W X n C (exec (.If test body orelse pos) env) m H Q := w_of fun E s a S => by
  refine wpAny_If (wpAny_mono (h.go E s a S) (fun b s' ⟨_, _, S₁, z⟩ => ?_) fun _ _ e => e)
  cases b with
  | true => exact (show W X n C (execs body env) _ _ Q from z).go E s' a S₁
  | false => exact (show W X n C (execs orelse env) _ _ Q from z).go E s' a S₁
theorem w_Return {e : Expr} {pos : Pos} {Q : Flow → Loc → Hp → Prop} (h : W X n C (eval e env) m H (fun v m₁ H₁ => Q (.ret v) m₁ H₁)) : W X n C (exec (.Return (some e) pos) env) m H Q := w_of fun E s a S => wpAny_Return_some (h.go E s a S)
theorem w_Continue {pos : Pos} {Q : Flow → Loc → Hp → Prop} (q : Q .cont m H) : W X n C (exec (.Continue pos) env) m H Q := w_of fun _ _ _ S _ _ _ => ⟨m, H, S, q⟩
theorem w_Assign {x : Str} {pos' pos : Pos} {value : Expr} {Q : Flow → Loc → Hp → Prop} (h : W X n C (eval value env) m H (fun v m₁ H₁ => W X n C (storeName env x v) m₁ H₁ (fun _ m₂ H₂ => Q .next m₂ H₂)))
    (hs : swapsWith value (some (.Name x pos')) pos.line env = pure false := by with_unfolding_all rfl) : W X n C (exec (.Assign [.Name x pos'] value pos) env) m H Q := w_of fun E s a S =>
  wpAny_Assign_Name (wpAny_mono (h.go E s a S) (fun _ s' ⟨_, _, S₁, z⟩ => z.go E s' a S₁) fun _ _ e => e) hs
theorem w_AssignSub {o i : Expr} {pos' pos : Pos} {value : Expr} {Q : Flow → Loc → Hp → Prop}
    (h : W X n C (eval value env) m H (fun v m₁ H₁ => W X n C (eval o env) m₁ H₁ (fun ov m₂ H₂ => W X n C (eval i env) m₂ H₂ (fun iv m₃ H₃ => W X n C (setItem ov iv v) m₃ H₃ (fun _ m₄ H₄ => Q .next m₄ H₄)))))
    (hs : swapsWith value (some (.Subscript o i pos')) pos.line env = pure false := by kernel_rfl) : W X n C (exec (.Assign [.Subscript o i pos'] value pos) env) m H Q := w_of fun E s a S =>
  wpAny_Assign_Subscript (wpAny_mono (h.go E s a S) (fun _ s' ⟨_, _, S₁, z⟩ => wpAny_mono (z.go E s' a S₁) (fun _ s' ⟨_, _, S₁, z⟩ => wpAny_mono (z.go E s' a S₁) (fun _ s' ⟨_, _, S₁, z⟩ => z.go E s' a S₁) fun _ _ e => e) fun _ _ e => e) fun _ _ e => e) hs
theorem w_AugAssign {x : Str} {pos' pos : Pos} {op : Operator} {value : Expr} {Q : Flow → Loc → Hp → Prop}
    (h : W X n C (loadName env x) m H (fun old m₁ H₁ => W X n C (eval value env) m₁ H₁ (fun v m₂ H₂ => W X n C (inplaceOp op old v) m₂ H₂ (fun r m₃ H₃ => W X n C (storeName env x r) m₃ H₃ (fun _ m₄ H₄ => Q .next m₄ H₄))))) :
    W X n C (exec (.AugAssign (.Name x pos') op value pos) env) m H Q := w_of fun E s a S =>
  wpAny_AugAssign_Name (wpAny_mono (h.go E s a S) (fun _ s' ⟨_, _, S₁, z⟩ => wpAny_mono (z.go E s' a S₁) (fun _ s' ⟨_, _, S₁, z⟩ => wpAny_mono (z.go E s' a S₁) (fun _ s' ⟨_, _, S₁, z⟩ => z.go E s' a S₁) fun _ _ e => e) fun _ _ e => e) fun _ _ e => e)
end
end Mine
namespace Mine
open PySem.Calls PySem.Spec
/-! attribute dicts -/
theorem putL_strKeys {es : List DictEntry} {name : Str} {hsh : Int} {t : Tok} {v : Value} (h : StrKeys es.toArray) : StrKeys (putL name hsh (.str name t) v es).toArray := by
  have h' : ∀ e ∈ es, ∃ n t, e.key = .str n t := fun e he => h e (by simpa using he)
  have : ∀ e ∈ putL name hsh (.str name t) v es, ∃ n t, e.key = .str n t := by
    clear h
    induction es with
    | nil => intro e he; rw [putL, List.mem_singleton] at he; subst he; exact ⟨name, t, rfl⟩
    | cons a r ih =>
      intro e he
      rw [putL] at he
      split at he
      · rcases List.mem_cons.mp he with rfl | he
        · exact h' a (.head _)
        · exact h' e (.tail _ he)
      · rcases List.mem_cons.mp he with rfl | he
        · exact h' _ (.head _)
        · exact ih (fun e he => h' e (.tail _ he)) e he
  intro e he
  exact this e (by simpa using he)
theorem putL_find' {name : Str} {hsh : Int} {t : Tok} {v : Value} : ∀ {es : List DictEntry}, (∀ e ∈ es, ∃ n t, e.key = .str n t) → ∀ x, ((putL name hsh (.str name t) v es).find? (·.key.isStr x)).map (·.val) = if x = name then some v else (es.find? (·.key.isStr x)).map (·.val)
  | [], _, x => by
    rw [putL]
    by_cases h : x = name
    · subst h; simp [Value.isStr]
    · have : (name == x) = false := by simpa using fun e : name = x => h e.symm
      simp [Value.isStr, h, this]
  | a :: r, hk, x => by
    obtain ⟨n, t', e⟩ := hk a (.head _)
    have ih := putL_find' (name := name) (hsh := hsh) (t := t) (v := v) (es := r) (fun e he => hk e (.tail _ he)) x
    rw [putL]
    by_cases hn : n = name
    · subst hn
      have : a.key.isStr n = true := by rw [e]; simp [Value.isStr]
      rw [if_pos this]
      by_cases h : x = n
      · subst h; simp [this]
      · have hx : a.key.isStr x = false := by rw [e]; simpa [Value.isStr] using fun q : n = x => h q.symm
        simp [hx, h]
    · have : a.key.isStr name = false := by rw [e]; simpa [Value.isStr] using hn
      rw [this]
      simp only [Bool.false_eq_true, if_false, List.find?_cons]
      by_cases h : x = name
      · subst h; rw [this]; simpa using ih
      · cases hx : a.key.isStr x with
        | true => simp [h]
        | false => simpa [h] using ih
theorem nsFind_list (es : List DictEntry) (x : Str) : nsFind es.toArray x = (es.find? (·.key.isStr x)).map (·.val) := by
  unfold nsFind findBy; simp
theorem putL_len {name : Str} {hsh : Int} {key v : Value} : ∀ es : List DictEntry, (putL name hsh key v es).length ≤ es.length + 1
  | [] => by simp [putL]
  | a :: r => by
    have := putL_len (name := name) (hsh := hsh) (key := key) (v := v) r
    rw [putL]; split <;> simp <;> omega
theorem getL_of {es : List DictEntry} {m : Loc} (hk : StrKeys es.toArray) (hf : ∀ x, nsFind es.toArray x = m x) (name : Str) : getL name es = some (m name) := by
  unfold getL
  rw [← hf, nsFind_list]
  cases q : es.find? (·.key.isStr name) with
  | some e => rfl
  | none =>
    have : es.any (·.refKey) = false := by
      rw [List.any_eq_false]
      intro e he
      obtain ⟨n, t, h⟩ := hk e (by simpa using he)
      simp [DictEntry.refKey, h]
    simp [this]
section
variable {X : Fx} {n : Nat} {C : Cx} {m : Loc} {H : Hp} {env : Env}
theorem inst_at {s : Shared} (S : St X C m H s) {x Cl dx : Addr} {f : Loc} {k : Nat} (hx : H x = some (.inst Cl dx)) (hd : H dx = some (.ns f k)) :
    ∃ es e, InstAt s.heap x (instObj Cl dx) Cl (some (dictOf es e)) ∧ s.heap.get? dx = some (dictOf es e) ∧ StrKeys es.toArray ∧ (∀ x, nsFind es.toArray x = f x) ∧ es.length ≤ k := by
  obtain ⟨o, ho, rfl⟩ := S.at hx
  obtain ⟨o', ho', es, e, rfl, hk, hf, hl⟩ := S.at hd
  exact ⟨es, e, ⟨ho, rfl, rfl, ho'⟩, ho', hk, hf, hl⟩
/-- reading a field -/
theorem w_get {x Cl dx : Addr} {f : Loc} {k : Nat} {name : Str} {v : Value} {ex : Bool} {Q : Value → Loc → Hp → Prop} (hx : H x = some (.inst Cl dx)) (hd : H dx = some (.ns f k)) (hv : f name = some v)
    (hg : plainGet X.K Cl name = true) (hh : hasDictIn X.K Cl = true) (ha : findIn X.K (.ref Cl) name = some none) (hn : handedIn v = true) (q : Q v m H) :
    W X n C (getAttr (.ref x) name ex) m H Q := w_of fun E s a S => by
  obtain ⟨es, e, I, _, hk, hf, _⟩ := inst_at S hx hd
  exact get_own S.fr S.g.k I hg hh ha rfl (by rw [getL_of hk hf, hv]) hn ⟨m, H, S.toks _, q⟩
/-- the method of an object -/
theorem w_method {x Cl dx g : Addr} {f : Loc} {k : Nat} {name : Str} {pl : Sem Bool} {Q : Value × List Value → Loc → Hp → Prop} (hx : H x = some (.inst Cl dx)) (hd : H dx = some (.ns f k)) (hv : f name = none)
    (hg : plainGet X.K Cl name = true) (hm : findIn X.K (.ref Cl) name = some (some (.ref g))) (ht : isFn X.K (.ref g) = true) (q : Q (.ref g, [.ref x]) m H) :
    W X n C (getMethod (.ref x) name pl) m H Q := w_of fun E s a S => by
  obtain ⟨es, e, I, _, hk, hf, _⟩ := inst_at S hx hd
  exact method_inst S.fr S.g.k I hg hm ht (by rw [getL_of hk hf, hv]) ⟨m, H, S, q⟩
/-- writing a field -/
theorem w_set {x Cl dx : Addr} {f : Loc} {k : Nat} {name : Str} {v : Value} {Q : Unit → Loc → Hp → Prop} (hx : H x = some (.inst Cl dx)) (hd : H dx = some (.ns f k)) (hk : k ≤ 900)
    (hs : findIn X.K (.ref Cl) "__setattr__" = some (some (.builtin "object.__setattr__"))) (hp : plainOver X.K Cl = true) (ht : takerIn X.K Cl name = some none) (hh : hasDictIn X.K Cl = true)
    (q : Q () m (upd H dx (.ns (setm f name v) (k + 1)))) : W X n C (setAttr (.ref x) name v) m H Q := w_of fun E s a S => by
  obtain ⟨es, e, I, D, sk, hf, hl⟩ := inst_at S hx hd
  have X₀ := S.k
  refine set_plain X₀ I hs ?_
  refine osa_open (s := { s with toks := s.toks + 1 }) X₀ I hp ht fun b => ?_
  obtain ⟨cd, hc, hd'⟩ := any_some hh
  have D' : (s.heap.update dx (Obj.putName name (PyData.keyHash X.w.params name) (.str name (s.toks + 1)) v)).get? dx = some (dictOf (putL name (PyData.keyHash X.w.params name) (.str name (s.toks + 1)) v es) (putN name es e)) := by
    rw [Heap.get?_update_self _ D (by rw [putName_dict]; rfl), putName_dict]
  refine wpAny_bind (wpAny_pure (wpAny_bind (wpAny_bind (wpAny_loadPart I.at_ (wpAny_bind (looks_clsIn X₀ hc _ _ _ { s with toks := s.toks + 1 } (fun _ _ e => e) ?_))))))
  rw [hd']
  refine wpAny_pure (a := some dx) (wpAny_bind (wpAny_pure (wpAny_bind ?_)))
  unfold nsSet
  refine wpAny_bind (wpAny_bind (wpAny_askSetting (wpAny_pure (wpAny_bind (wpAny_mkText (wpAny_bind (wpAny_loadPart D ?_)))))))
  have c : (!es.toArray.any (·.key.isStr name) && es.toArray.any (·.refKey)) = false := by
    have : es.toArray.any (·.refKey) = false := by
      rw [Array.any_eq_false']; intro e he; obtain ⟨n, t, h⟩ := sk e he; simp [DictEntry.refKey, h]
    rw [this, Bool.and_false]
  dsimp only
  rw [aRefKeyMayBeTheName_at, c]
  refine wpAny_updatePart D ?_
  refine wpAny_bind (wpAny_lookBehind D' (pastItsLine_dict (by have := putL_len (name := name) (hsh := PyData.keyHash X.w.params name) (key := .str name (s.toks + 1)) (v := v) es; rw [List.size_toArray, sizeLine_eq]; omega)) ?_)
  refine wpAny_pure ?_
  refine ⟨m, _, S.turn (ao' := .ns (setm f name v) (k + 1)) hd (Heap.SameBut.update ..).extBut D' ⟨_, _, rfl, putL_strKeys sk, fun y => ?_, ?_⟩, q⟩
  · rw [nsFind_list, putL_find' (fun e he => sk e (by simpa using he)), ← nsFind_list, hf]; rfl
  · have := putL_len (name := name) (hsh := PyData.keyHash X.w.params name) (key := .str name (s.toks + 1)) (v := v) es; omega
theorem w_AssignAttr {o : Expr} {attr : Str} {pos' pos : Pos} {value : Expr} {Q : Flow → Loc → Hp → Prop}
    (h : W X n C (eval value env) m H (fun v m₁ H₁ => W X n C (eval o env) m₁ H₁ (fun ov m₂ H₂ => W X n C (setAttr ov attr v) m₂ H₂ (fun _ m₃ H₃ => Q .next m₃ H₃))))
    (hs : swapsWith value (some (.Attribute o attr pos')) pos.line env = pure false := by kernel_rfl) : W X n C (exec (.Assign [.Attribute o attr pos'] value pos) env) m H Q := w_of fun E s a S =>
  plainObj_wpAny_Assign_Attribute (wpAny_mono (h.go E s a S) (fun _ s' ⟨_, _, S₁, z⟩ => wpAny_mono (z.go E s' a S₁) (fun _ s' ⟨_, _, S₁, z⟩ => z.go E s' a S₁) fun _ _ e => e) fun _ _ e => e) hs
/-! calls -/
theorem w_Attribute {value : Expr} {attr : Str} {pos : Pos} {Q : Value → Loc → Hp → Prop} (h : W X n C (eval value env) m H (fun o m₁ H₁ => W X n C (getAttr o attr true) m₁ H₁ Q))
    (he : eval (.Attribute value attr pos) env = (do
      let o ← eval value env
      standAt pos.atName
      let r ← holding [o] (getAttr o attr true)
      letTemporaryGo value o r
      pure r) := by kernel_rfl) : W X n C (eval (.Attribute value attr pos) env) m H Q := w_of fun E s a S =>
  Attribute_any_ (wpAny_mono (h.go E s a S) (fun _ s' ⟨_, _, S₁, z⟩ => z.go E s' a S₁) fun _ _ e => e) he
theorem w_Call {func : Expr} {args : List Expr} {pos : Pos} {Q : Value → Loc → Hp → Prop}
    (h : W X n C (eval func env) m H (fun f m₁ H₁ => W X n C (callWith pos f [] (backTo pos (starEach args env)) []) m₁ H₁ Q))
    (he : eval (.Call func args [] pos) env = (do callWith pos (← eval func env) [] (backTo pos (starEach args env)) (backToKw pos (keywordEach [] env))) := by kernel_rfl) :
    W X n C (eval (.Call func args [] pos) env) m H Q := w_of fun E s a S => Call_ (wpAny_mono (h.go E s a S) (fun _ s' ⟨_, _, S₁, z⟩ => z.go E s' a S₁) fun _ _ e => e) he
theorem w_MCall {o : Expr} {name : Str} {apos pos : Pos} {args : List Expr} {pl : Sem Bool} {Q : Value → Loc → Hp → Prop}
    (h : W X n C (eval o env) m H (fun ov m₁ H₁ => W X n C (getMethod ov name pl) m₁ H₁ (fun fx m₂ H₂ => W X n C (callWith pos fx.1 fx.2 (backTo pos (starEach args env)) []) m₂ H₂ Q)))
    (he : eval (.Call (.Attribute o name apos) args [] pos) env = (do
      let ov ← eval o env
      standAt apos.atName
      let (f, first) ← holding [ov] (getMethod ov name pl)
      callWith pos f first (backTo pos (starEach args env)) []) := by with_unfolding_all rfl) :
    W X n C (eval (.Call (.Attribute o name apos) args [] pos) env) m H Q := w_of fun E s a S =>
  MethodCall_ (wpAny_mono (h.go E s a S) (fun _ s' ⟨_, _, S₁, z⟩ => wpAny_mono (z.go E s' a S₁) (fun _ s' ⟨_, _, S₁, z⟩ => z.go E s' a S₁) fun _ _ e => e) fun _ _ e => e) he
theorem w_args0 {pos : Pos} {Q : List Value → Loc → Hp → Prop} (q : Q [] m H) : W X n C (spliced (backTo pos (starEach [] env))) m H Q := w_of fun _ _ _ S => spliced_none ⟨m, H, S, q⟩
theorem w_args {pos : Pos} {e : Expr} {rest : List Expr} {Q : List Value → Loc → Hp → Prop}
    (h : W X n C (eval e env) m H (fun v m₁ H₁ => W X n C (spliced (backTo pos (starEach rest env))) m₁ H₁ (fun vs m₂ H₂ => Q (v :: vs) m₂ H₂)))
    (he : starEach (e :: rest) env = (false, eval e env) :: starEach rest env := by kernel_rfl) : W X n C (spliced (backTo pos (starEach (e :: rest) env))) m H Q := w_of fun E s a S =>
  spliced_more (wpAny_mono (h.go E s a S) (fun _ s' ⟨_, _, S₁, z⟩ => z.go E s' a S₁) fun _ _ e => e) he
theorem w_callK {pos : Pos} {f : Value} {first : List Value} {e : Expr} {rest : List Expr} {Q : Value → Loc → Hp → Prop} (hk : keepIn X.K f = true)
    (h : W X n C (spliced (backTo pos (starEach (e :: rest) env))) m H (fun vs m₁ H₁ => W X n C (call f (first ++ vs)) m₁ H₁ Q))
    (he : starEach (e :: rest) env = (false, eval e env) :: starEach rest env := by rfl) (hplain : (backTo pos (starEach rest env)).any (·.1) = false := by rfl) :
    W X n C (callWith pos f first (backTo pos (starEach (e :: rest) env)) []) m H Q := w_of fun E s a S =>
  callWith_K (h₀ := C.hb) S.g.k hk (wpAny_mono (h.go E s a S) (fun _ s' ⟨_, _, S₁, z⟩ => ⟨S₁.k, z.go E s' a S₁⟩) fun _ _ e => e) he hplain
theorem w_callK0 {pos : Pos} {f : Value} {first : List Value} {Q : Value → Loc → Hp → Prop} (hk : keepIn X.K f = true) (h : W X n C (call f (first ++ [])) m H Q) :
    W X n C (callWith pos f first (backTo pos (starEach [] env)) []) m H Q := w_of fun E s a S => callWith_K0 S.k hk (h.go E s a S)
theorem keeper_plain {f : Value} (hf : ∀ a, f ≠ .ref a) {M : Model} (h : Heap) (_ : True) : ∃ k, (k = Keeper.frame ∨ k = Keeper.machine ∨ k = Keeper.boundFrame) ∧ Looks M h (keeperOf f) k :=
  ⟨.machine, .inr (.inl rfl), Looks.of_pure (by cases f <;> first | rfl | exact absurd rfl (hf _))⟩
theorem w_callB {pos : Pos} {f : Value} {first : List Value} {e : Expr} {rest : List Expr} {Q : Value → Loc → Hp → Prop} (hf : ∀ a, f ≠ .ref a)
    (h : W X n C (spliced (backTo pos (starEach (e :: rest) env))) m H (fun vs m₁ H₁ => W X n C (call f (first ++ vs)) m₁ H₁ Q))
    (he : starEach (e :: rest) env = (false, eval e env) :: starEach rest env := by rfl) (hplain : (backTo pos (starEach rest env)).any (·.1) = false := by rfl) :
    W X n C (callWith pos f first (backTo pos (starEach (e :: rest) env)) []) m H Q := w_of fun E s a S => by
  have z := h.go E s a S
  rw [he] at z ⊢
  exact callWith_of (P := fun _ => True) (by show ((false || (backTo pos (starEach rest env)).any (·.1)) || false) = false; rw [hplain]; rfl) (keeper_plain hf)
    (evalArgs_plain (wpAny_mono z (fun _ s' ⟨_, _, S₁, z⟩ => ⟨trivial, z.go E s' a S₁⟩) fun _ _ e => e))
theorem w_callB0 {pos : Pos} {f : Value} {first : List Value} {Q : Value → Loc → Hp → Prop} (hf : ∀ a, f ≠ .ref a) (h : W X n C (call f (first ++ [])) m H Q) :
    W X n C (callWith pos f first (backTo pos (starEach [] env)) []) m H Q := w_of fun E s a S => callWith_of (P := fun _ => True) rfl (keeper_plain hf) (evalArgs_nil3 ⟨trivial, h.go E s a S⟩)
/-! methods of lists and dicts -/
theorem w_mList {l : Addr} {xs : List Value} {name : Str} {id : String} {pl : Sem Bool} {Q : Value × List Value → Loc → Hp → Prop} (hl : H l = some (.list xs)) (slot : Slot "list" name id) (hty : typeOf (.builtin id) = pure (.type "method_descriptor"))
    (q : Q (.builtin id, [.ref l]) m H) : W X n C (getMethod (.ref l) name pl) m H Q := w_of fun E s a S => by
  obtain ⟨o, ho, k, rfl⟩ := S.at hl
  exact getMethod_builtin ⟨_, ho, rfl⟩ PySem.F.plainAttrs_list slot hty (fun a e => by cases e; exact ⟨_, ho, rfl⟩) ⟨m, H, S, q⟩
theorem w_mDict {l : Addr} {f : Int → Option Value} {name : Str} {id : String} {pl : Sem Bool} {Q : Value × List Value → Loc → Hp → Prop} (hl : H l = some (.map f)) (slot : Slot "dict" name id) (hty : typeOf (.builtin id) = pure (.type "method_descriptor"))
    (q : Q (.builtin id, [.ref l]) m H) : W X n C (getMethod (.ref l) name pl) m H Q := w_of fun E s a S => by
  obtain ⟨o, ho, es, ep, rfl, _⟩ := S.at hl
  exact getMethod_builtin ⟨_, ho, rfl⟩ PySem.F.plainAttrs_dict slot hty (fun a e => by cases e; exact ⟨_, ho, rfl⟩) ⟨m, H, S, q⟩
theorem listUpd {h : Heap} {l : Addr} {xs ys : List Value} {k : Nat} (ho : h.get? l = some { cls := .type "list", data := .seq xs.toArray k }) (f : Array Value → Array Value) (hf : f xs.toArray = ys.toArray) :
    ∃ o', (h.update l (Obj.mapSeq f)).get? l = some o' ∧ (AO.list ys).Is o' := by
  have q := PySem.IsL.update ho f
  rw [hf] at q
  exact ⟨_, q, _, rfl⟩
theorem w_append {l : Addr} {xs : List Value} {x : Value} {Q : Value → Loc → Hp → Prop} (hl : H l = some (.list xs)) (hz : xs.length ≤ sizeLine) (q : Q .none m (upd H l (.list (xs ++ [x])))) :
    W X n C (call (.builtin "list.append") [.ref l, x]) m H Q := w_of fun E s a S => by
  obtain ⟨o, ho, k, rfl⟩ := S.at hl
  obtain ⟨o', g, i⟩ := listUpd (ys := xs ++ [x]) ho (·.push x) (by simp)
  exact call_meets PySem.F.slot_list_append ⟨_, ho, rfl⟩ PySem.F.entry_list_append (PySem.F.args_list_append_2 _ _) (PySem.list_append l xs.toArray k x (by simpa using hz))
    ⟨ho, m, _, S.turn (tk := s.toks) hl (Heap.SameBut.update ..).extBut g i, q⟩
theorem w_pop {l : Addr} {xs : List Value} {x : Value} {Q : Value → Loc → Hp → Prop} (hl : H l = some (.list (xs ++ [x]))) (hz : xs.length < sizeLine) (q : Q x m (upd H l (.list xs))) :
    W X n C (call (.builtin "list.pop") [.ref l]) m H Q := w_of fun E s a S => by
  obtain ⟨o, ho, k, rfl⟩ := S.at hl
  obtain ⟨o', g, i⟩ := listUpd (ys := xs) ho (fun ys => ys.eraseIdxIfInBounds ((xs ++ [x]).toArray.size - 1)) (by
    apply Array.ext'
    simp [Array.eraseIdxIfInBounds, List.eraseIdx_append_of_length_le])
  exact call_meets PySem.F.slot_list_pop ⟨_, ho, rfl⟩ PySem.F.entry_list_pop (PySem.F.args_list_pop_1 _) (PySem.MeetsSeq.list_pop_last l (xs ++ [x]).toArray k x (by simp) (by simp; omega))
    ⟨ho, m, _, S.turn (tk := s.toks) hl (Heap.SameBut.update ..).extBut g i, q⟩
end
end Mine
namespace Mine
open PySem.Calls PySem.Spec
/-! int-keyed dicts -/
theorem nodup_len : ∀ (B : Nat) (l : List Nat), l.Nodup → (∀ x ∈ l, x < B) → l.length ≤ B
  | 0, l, _, h => by
    cases l with
    | nil => simp
    | cons a r => exact absurd (h a (.head _)) (Nat.not_lt_zero _)
  | B + 1, l, nd, h => by
    by_cases hm : B ∈ l
    · have e := nodup_len B (l.erase B) (nd.erase B) (fun x hx => by
        have h1 := h x (List.mem_of_mem_erase hx)
        have h2 : x ≠ B := fun e => by
          rw [nd.mem_erase_iff] at hx
          exact hx.1 e
        omega)
      rw [List.length_erase_of_mem hm] at e
      omega
    · have := nodup_len B l nd fun x hx => by
        have h1 := h x hx
        have : x ≠ B := fun e => hm (e ▸ hx)
        omega
      omega
theorem keys_len {es : Array DictEntry} {f : Int → Option Value} {B : Nat} (hk : IntKeys es) (hf : ∀ k, findBy Value.isInt es k = f k) (ho : KeysOnce es) (hB : ∀ k, f k ≠ none → 0 ≤ k ∧ k < B) : es.size ≤ B := by
  obtain ⟨l⟩ := es
  let key : DictEntry → Nat := fun e => match e.key with | .int k _ => k.toNat | _ => 0
  have hin : ∀ e ∈ l, ∃ k t, e.key = .int k t ∧ 0 ≤ k ∧ k < B := fun e he => by
    obtain ⟨k, t, h1, _⟩ := hk e (by simpa using he)
    refine ⟨k, t, h1, hB k ?_⟩
    rw [← hf k]
    intro hn
    simp only [findBy, Option.map_eq_none_iff, List.find?_toArray] at hn
    have := List.find?_eq_none.mp hn e he
    rw [h1] at this
    simp [Value.isInt] at this
  have nd : (l.map key).Nodup := by
    have ho' : l.Pairwise fun a b => ∀ k, Value.isInt k a.key = true → Value.isInt k b.key = false := ho
    clear hf ho hB hk
    unfold List.Nodup
    rw [List.pairwise_map]
    refine List.Pairwise.imp_of_mem (fun {a b} ha hb h => ?_) ho'
    obtain ⟨k, t, h1, h2, h3⟩ := hin a ha
    obtain ⟨k', t', h1', h2', h3'⟩ := hin b hb
    intro e
    have e' : k.toNat = k'.toNat := by simpa only [key, h1, h1'] using e
    have : k = k' := by omega
    subst this
    have := h k (by rw [h1]; simp [Value.isInt])
    rw [h1'] at this
    simp [Value.isInt] at this
  have := nodup_len B (l.map key) nd fun x hx => by
    obtain ⟨e, he, rfl⟩ := List.mem_map.mp hx
    obtain ⟨k, t, h1, h2, h3⟩ := hin e he
    simp only [key, h1]; omega
  simpa using this
theorem once_modify {es : Array DictEntry} (h : KeysOnce es) (i : Nat) (v : Value) : KeysOnce (es.modify i fun e => { e with val := v }) := by
  obtain ⟨l⟩ := es
  have h' : l.Pairwise fun a b => ∀ k, Value.isInt k a.key = true → Value.isInt k b.key = false := h
  show ((l.toArray.modify i _).toList).Pairwise _
  rw [List.modify_toArray]
  show (l.modify i _).Pairwise _
  have : (l.modify i fun e => ({ e with val := v } : DictEntry)).map (·.key) = l.map (·.key) := by
    clear h h'
    induction l generalizing i with
    | nil => cases i <;> rfl
    | cons a r ih => cases i with
      | zero => rfl
      | succ i => simp only [List.modify_succ_cons, List.map_cons, ih]
  have q : ((l.modify i fun e => ({ e with val := v } : DictEntry)).map (·.key)).Pairwise fun a b => ∀ k, Value.isInt k a = true → Value.isInt k b = false := by
    rw [this, List.pairwise_map]; exact h'
  rwa [List.pairwise_map] at q
theorem once_push {es : Array DictEntry} (h : KeysOnce es) {k : Int} {t : Tok} {v : Value} {hs : Int} (hn : es.findIdx? (fun e => Value.isInt k e.key) = none) : KeysOnce (es.push ⟨hs, .int k t, v⟩) := by
  obtain ⟨l⟩ := es
  show (l.toArray.push _).toList.Pairwise _
  rw [List.push_toArray]
  show (l ++ [_]).Pairwise _
  rw [List.pairwise_append]
  refine ⟨h, List.pairwise_singleton _ _, fun a ha b hb => ?_⟩
  rw [List.mem_singleton] at hb
  subst hb
  intro k' hk'
  have := Array.findIdx?_eq_none_iff.mp hn a (by simpa using ha)
  show (k == k') = false
  cases q : k == k' with
  | false => rfl
  | true =>
    have : k = k' := by simpa using q
    subst this
    rw [this] at hk'
    cases hk'
section
variable {X : Fx} {n : Nat} {C : Cx} {m : Loc} {H : Hp} {env : Env}
theorem w_dget {d : Addr} {f : Int → Option Value} {k : Int} {t : Tok} {dflt : Value} {Q : Value → Loc → Hp → Prop} (hd : H d = some (.map f)) (q : Q ((f k).getD dflt) m H) :
    W X n C (call (.builtin "dict.get") [.ref d, .int k t, dflt]) m H Q := w_of fun E s a S => by
  obtain ⟨o, ho, es, ep, rfl, hk, hf, _⟩ := S.at hd
  have hm : s.heap.IntMap d f := ⟨_, es, ep, ho, rfl, rfl, hk, hf⟩
  refine wpAny_call_entry PySem.F.slot_dict_get hm.typeIs PySem.F.entry_dict_get ?_ (PySem.F.args_dict_get_3 _ _ _)
  show wpAny _ _ (dictGet d (.int k t) >>= _) _ _ s
  refine wpAny_bind (wpAny_dictGet_int hm ?_)
  cases hv : f k with
  | some v =>
    rw [hv] at q
    exact wpAny_pure ⟨v, rfl, m, H, S.toks _, q⟩
  | none =>
    rw [hv] at q
    show wpAny _ _ (Builtin.Dict.missed d (.int k t) >>= _) _ _ _
    exact wpAny_bind (wpAny_missed_int (wpAny_pure ⟨dflt, rfl, m, H, S.toks _, q⟩))
theorem w_dset {d : Addr} {f : Int → Option Value} {k : Int} {t : Tok} {v : Value} {B : Nat} {Q : Unit → Loc → Hp → Prop} (hd : H d = some (.map f)) (hB : ∀ k, f k ≠ none → 0 ≤ k ∧ k < (B : Int)) (hz : B ≤ sizeLine)
    (q : Q () m (upd H d (.map fun x => if x = k then some v else f x))) : W X n C (setItem (.ref d) (.int k t) v) m H Q := w_of fun E s a S => by
  obtain ⟨o, ho, es, ep, rfl, hk, hf, ho1⟩ := S.at hd
  have hm : s.heap.IntMap d f := ⟨_, es, ep, ho, rfl, rfl, hk, hf⟩
  have hsz : es.size ≤ sizeLine := Nat.le_trans (keys_len hk hf ho1 hB) hz
  unfold setItem
  try with_reducible refine wpAny_holding ?_
  first | refine wpAny_bind (wpAny_pure ?_) | skip
  refine wpAny_bind (wpAny_sequenceKey hm.typeIs (by decide) ?_)
  refine wpAny_bind (wpAny_callSpecial?_slot (name := Str.ofString "__setitem__") hm.typeIs slot_dict_setitem
    (wpAny_call_entry slot_dict_setitem hm.typeIs entry_dict_setitem ?_ (args_dict_setitem _ _ _)))
  show wpAny _ _ (Builtin.Dict.notOrdered "__setitem__" ⟨[.ref d, .int k t, v], []⟩ >>= _) _ _ s
  refine wpAny_bind (wpAny_notOrdered_dict hm.typeIs ?_)
  show wpAny _ _ (dictSet d (.int k t) v >>= _) _ _ s
  refine wpAny_bind ?_
  have fin : ∀ (g : Obj → Obj) (es' : Array DictEntry) (ep' : Nat), g { cls := .type "dict", data := .dict es ep } = { cls := .type "dict", data := .dict es' ep' } → IntKeys es' → (∀ x, findBy Value.isInt es' x = if x = k then some v else f x) → KeysOnce es' →
      ∃ m' H', St X C m' H' { s with heap := s.heap.update d g, toks := s.toks + 1 } ∧ Q () m' H' := fun g es' ep' e1 e2 e3 e4 =>
    ⟨m, _, S.turn (ao' := .map fun x => if x = k then some v else f x) hd (Heap.SameBut.update ..).extBut (Heap.get?_update_self _ ho (by rw [e1]; rfl)) ⟨es', ep', e1, e2, e3, e4⟩, q⟩
  unfold dictSet
  try with_reducible refine wpAny_holding ?_
  refine wpAny_bind (wpAny_pyHash_int ?_)
  unfold dictSetHashed
  try with_reducible refine wpAny_holding ?_
  refine wpAny_bind (wpAny_dictFind_int (s := { s with toks := s.toks + 1 }) ho rfl hk ?_)
  cases hi : es.findIdx? fun e => Value.isInt k e.key with
  | some i =>
    refine wpAny_bind (wpAny_rule (wpAny_bind (wpAny_updateDict (s := { s with toks := s.toks + 1 }) ho rfl (wpAny_point ?_))))
    refine wpAny_pure ⟨.none, rfl, wpAny_pure ?_⟩
    exact fin _ _ _ rfl (hk.modify _ _) (fun x => by rw [findBy_modify Value.isInt Value.isInt_inj es k x v i hi, hf]) (once_modify ho1 _ _)
  | none =>
    refine wpAny_bind (wpAny_rule (wpAny_updateDictKeys (hz := hsz) (s := { s with toks := s.toks + 1 }) ho rfl ?_))
    refine wpAny_pure ⟨.none, rfl, wpAny_pure ?_⟩
    exact fin _ _ _ rfl (hk.push _ _ _) (fun x => by
      rw [findBy_push Value.isInt es k x _ _ v (fun y => by
        simp only [Value.isInt]
        by_cases h : y = k
        · subst h; simp
        · have : ¬ k = y := fun e => h e.symm
          simp [h, this]) hi, hf]) (once_push ho1 hi)
theorem w_Dict {pos : Pos} {Q : Value → Loc → Hp → Prop} (q : ∀ d, H d = none → Q (.ref d) m (upd H d (.map fun _ => none))) : W X n C (eval (.Dict [] [] pos) env) m H Q := w_of fun E s a S =>
  wpAny_Dict_empty ⟨m, _, S.push (ao := .map fun _ => none) ⟨#[], 0, rfl, fun _ he => by simp at he, fun _ => rfl, List.Pairwise.nil⟩, q _ (S.fresh (Nat.le_refl _))⟩
/-! lists and tuples -/
theorem St.isList {s : Shared} (S : St X C m H s) {l : Addr} {xs : List Value} (hl : H l = some (.list xs)) : s.heap.IsList l xs.toArray := by
  obtain ⟨o, ho, k, rfl⟩ := S.at hl; exact ⟨_, ho, rfl, k, rfl⟩
theorem St.isTup {s : Shared} (S : St X C m H s) {l : Addr} {xs : List Value} (hl : H l = some (.tup xs)) : IsTup s.heap l xs.toArray := by
  obtain ⟨o, ho, k, rfl⟩ := S.at hl; exact ⟨_, ho, rfl, k, rfl⟩
theorem w_lget {l : Addr} {xs : List Value} {k : Int} {t : Tok} {x : Value} {Q : Value → Loc → Hp → Prop} (hl : H l = some (.list xs)) (h0 : 0 ≤ k) (hz : k < 2 ^ 63) (hx : xs[k.toNat]? = some x) (q : Q x m H) :
    W X n C (getItem (.ref l) (.int k t)) m H Q := w_of fun _ _ _ S => wpAny_getItem_list (S.isList hl) h0 hz (by simpa using hx) ⟨m, H, S, q⟩
theorem w_tget {l : Addr} {xs : List Value} {k : Int} {t : Tok} {x : Value} {Q : Value → Loc → Hp → Prop} (hl : H l = some (.tup xs)) (h0 : 0 ≤ k) (hz : k < 2 ^ 63) (hx : xs[k.toNat]? = some x) (q : Q x m H) :
    W X n C (getItem (.ref l) (.int k t)) m H Q := w_of fun _ _ _ S => PyProof.Rows.getItem_tuple (j := k.toNat) (S.isTup hl) (by omega) hz (by
      obtain ⟨j, rfl⟩ := Int.eq_ofNat_of_zero_le h0
      have : j < xs.length := by
        have := List.getElem?_eq_some_iff.mp hx
        exact this.1
      simp [seqIndex?]; omega) (by simpa using hx) ⟨m, H, S, q⟩
theorem w_lset {l : Addr} {xs : List Value} {k : Int} {t : Tok} {x : Value} {Q : Unit → Loc → Hp → Prop} (hl : H l = some (.list xs)) (h0 : 0 ≤ k) (hz : k < 2 ^ 63) (hx : k < xs.length) (q : Q () m (upd H l (.list (xs.set k.toNat x)))) :
    W X n C (setItem (.ref l) (.int k t) x) m H Q := w_of fun E s a S => by
  obtain ⟨o, ho, e, rfl⟩ := S.at hl
  obtain ⟨o', g, i⟩ := listUpd (ys := xs.set k.toNat x) ho (·.setIfInBounds k.toNat x) (by simp)
  exact ki_setAt ho h0 hz (by simpa using hx) ⟨m, _, S.turn (tk := s.toks) hl (Heap.SameBut.update ..).extBut g i, q⟩
theorem w_Sub {value slice : Expr} {pos : Pos} {Q : Value → Loc → Hp → Prop} (h : W X n C (eval value env) m H (fun o m₁ H₁ => W X n C (eval slice env) m₁ H₁ (fun i m₂ H₂ => W X n C (subscriptTail value slice o i) m₂ H₂ Q))) :
    W X n C (eval (.Subscript value slice pos) env) m H Q := w_of fun E s a S =>
  Subscript_ (wpAny_mono (h.go E s a S) (fun _ s' ⟨_, _, S₁, z⟩ => wpAny_mono (z.go E s' a S₁) (fun _ s' ⟨_, _, S₁, z⟩ => z.go E s' a S₁) fun _ _ e => e) fun _ _ e => e)
theorem w_subL {value slice : Expr} {l : Addr} {xs : List Value} {k : Int} {t : Tok} {x : Value} {Q : Value → Loc → Hp → Prop} (hl : H l = some (.list xs)) (h0 : 0 ≤ k) (hz : k < 2 ^ 63) (hx : xs[k.toNat]? = some x) (q : Q x m H)
    (hs : subscripted slice false (.ref l) (.int k t) = operate [.ref l, .int k t] (getItem (.ref l) (.int k t)) := by with_unfolding_all rfl) :
    W X n C (subscriptTail value slice (.ref l) (.int k t)) m H Q := w_of fun E s a S =>
  tail_any (S.isList hl).typeIs slot_list_getitem.lookup ((w_lget hl h0 hz hx q).go E s a S) hs
theorem w_subT {value slice : Expr} {l : Addr} {xs : List Value} {k : Int} {t : Tok} {x : Value} {Q : Value → Loc → Hp → Prop} (hl : H l = some (.tup xs)) (h0 : 0 ≤ k) (hz : k < 2 ^ 63) (hx : xs[k.toNat]? = some x) (q : Q x m H)
    (hs : subscripted slice false (.ref l) (.int k t) = operate [.ref l, .int k t] (getItem (.ref l) (.int k t)) := by with_unfolding_all rfl) :
    W X n C (subscriptTail value slice (.ref l) (.int k t)) m H Q := w_of fun E s a S =>
  tail_any (S.isTup hl).typeIs slot_tuple_getitem.lookup ((w_tget hl h0 hz hx q).go E s a S) hs
theorem w_List {elts : List Expr} {pos : Pos} {Q : Value → Loc → Hp → Prop} (h : W X n C (spliced (backTo pos (starEach elts env))) m H (fun vs m₁ H₁ => vs.length ≤ sizeLine ∧ ∀ d, H₁ d = none → Q (.ref d) m₁ (upd H₁ d (.list vs)))) :
    W X n C (eval (.List elts pos) env) m H Q := w_of fun E s a S =>
  List_ (wpAny_mono (h.go E s a S) (fun vs s' ⟨m₁, _, S₁, hz, z⟩ => wpAny_newObj_type ⟨m₁, _, S₁.push (ao := .list vs) ⟨0, rfl⟩, z _ (S₁.fresh (Nat.le_refl _))⟩ (by show vs.toArray.size ≤ sizeLine; rw [List.size_toArray]; exact hz)) fun _ _ e => e)
theorem w_Tuple {elts : List Expr} {k : Nat} {pos : Pos} {Q : Value → Loc → Hp → Prop} (h : W X n C (spliced (backTo pos (starEach elts env))) m H (fun vs m₁ H₁ => vs.length ≤ sizeLine ∧ ∀ d, H₁ d = none → Q (.ref d) m₁ (upd H₁ d (.tup vs)))) :
    W X n C (eval (.Tuple elts k pos) env) m H Q := w_of fun E s a S =>
  Tuple_ (wpAny_mono (h.go E s a S) (fun vs s' ⟨m₁, _, S₁, hz, z⟩ => wpAny_newObj_type ⟨m₁, _, S₁.push (ao := .tup vs) ⟨0, rfl⟩, z _ (S₁.fresh (Nat.le_refl _))⟩ (by show vs.toArray.size ≤ sizeLine; rw [List.size_toArray]; exact hz)) fun _ _ e => e)
theorem w_addL {l b : Addr} {xs ys : List Value} {Q : Value → Loc → Hp → Prop} (hl : H l = some (.list xs)) (hb : H b = some (.list ys)) (hz : xs.length + ys.length ≤ sizeLine) (q : ∀ d, H d = none → Q (.ref d) m (upd H d (.list (xs ++ ys)))) :
    W X n C (binaryOp .Add (.ref l) (.ref b)) m H Q := w_of fun E s a S => by
  obtain ⟨o, ho, e, rfl⟩ := S.at hl
  obtain ⟨o, ho', e', rfl⟩ := S.at hb
  exact PySem.P.add_list ho ho' ⟨m, _, S.push (ao := .list (xs ++ ys)) (tk := s.toks) ⟨0, by simp⟩, q _ (S.fresh (Nat.le_refl _))⟩ (by simpa using hz)
theorem rep_fold (xs : List Value) (k : Nat) : List.foldl (fun x1 x2 => x1 ++ x2) #[] (List.replicate (if xs.toArray.isEmpty = true then 0 else k) xs.toArray) = (List.replicate k xs).flatten.toArray := by
  have := listMul_foldl_if xs.toArray k
  simpa using this
theorem w_mulL {l : Addr} {xs : List Value} {x : Int} {u : Tok} {Q : Value → Loc → Hp → Prop} (hl : H l = some (.list xs)) (h0 : -(2 ^ 63 : Int) ≤ x) (h1 : x < 2 ^ 63) (hz : xs.length * x.toNat ≤ 2 ^ 24) (q : ∀ d, H d = none → Q (.ref d) m (upd H d (.list (List.replicate x.toNat xs).flatten))) :
    W X n C (binaryOp .Mult (.ref l) (.int x u)) m H Q := w_of fun E s a S => by
  obtain ⟨o, ho, e, rfl⟩ := S.at hl
  have hsz' : xs.toArray.size * x.toNat ≤ 2 ^ 24 := by simpa using hz
  exact wpAny_binaryOp_repeat_ref (T := "list") (U := "int") (by decide) ⟨_, ho, rfl⟩ (fun s' => typeIs_int s' x u) noFill_list_mul PySem.F.fills_int_mul PySem.F.slot_int_rmul repeat_list PySem.F.slot_int_index.lookup
    (call_meets PySem.F.slot_int_rmul (typeIs_int s x u) PySem.F.entry_int_rmul (PySem.F.args_int_rmul_2 _ _) (int___rmul___int_list x u l xs.toArray e)
      ⟨ho, rfl, ⟨_, ho, rfl⟩, call_meets PySem.F.slot_list_mul ⟨_, ho, rfl⟩ PySem.F.entry_list_mul (PySem.F.args_list_mul_2 _ _)
        (AutoListH.list___mul___list_int_3 l xs.toArray e x u (by simp [Builtin.List.listFitsIndex]; omega) (by omega) (by simp [Builtin.List.listTooLong, sizeLine] at hsz' ⊢; omega))
        ⟨ho, m, _, S.push (ao := .list (List.replicate x.toNat xs).flatten) (tk := s.toks) ⟨0, by rw [rep_fold]⟩, q _ (S.fresh (Nat.le_refl _))⟩⟩)
theorem w_len {l : Addr} {xs : List Value} {Q : Value → Loc → Hp → Prop} (hl : H l = some (.list xs)) (hz : xs.length < 2 ^ 63) (q : ∀ t, Q (.int xs.length t) m H) : W X n C (call (.builtin "len") [.ref l]) m H Q := w_of fun E s a S => by
  have z := S.isList hl
  refine call_len_list z (by simp; omega) ?_
  have : ((xs.toArray.size : Nat) : Int) = xs.length := by simp
  rw [this]
  exact ⟨m, H, S.toks _, q _⟩
end
end Mine
namespace Mine
open PySem.Calls PySem.Spec
def retOf : Flow → Value
  | .ret v => v
  | _ => .none
section
variable {X : Fx} {n : Nat} {H : Hp} {name qual : Str} {params : Arguments} {body : List Stmt} {scope : Scope} {dV kV doc pm cdv ct oc : Value} {an od : Option Addr} {osl : Array (Option Value)} {f : Addr} {args : List Value} {binds : List (Str × Value)} {Q : Value → Hp → Prop}
theorem hin_open {h₀ h h' : Heap} (z : HIn h₀ H h) (k : Keep h h') : HIn h₀ H h' := fun a ao e => let ⟨o, x, i, w⟩ := z a ao e; ⟨o, k _ _ x, i, w⟩
/-- a def without cells -/
theorem spec_def (ho : X.K.lookup f = some ⟨oc, od, .func (fnOf name qual params body scope dV kV doc pm an cdv ct), osl⟩) (hcd : codeIn X.K cdv qual = true)
    (hbind : bindArgs (fnOf name qual params body scope dV kV doc pm an cdv ct) ⟨args, []⟩ = pure binds) (hcell : ∀ x ∈ scope.names, x.2 ≠ .cell) (hloc : ∀ x ∈ binds, scope.names.lookup x.1 = some .local)
    (h : ∀ C : Cx, W X n C (execs body (envOf qual scope C.L f cdv)) (fun y => binds.reverse.lookup y) H (fun fl _ H' => Q (retOf fl) H'))
    (hco : scope.isCoroutine = false := by rfl) (hgen : scope.isGenerator = false := by rfl) (hk : scope.kind = .function := by rfl) : Spec X (n + 1) (.ref f) args H Q := by
  constructor
  intro A h₀ s a g kp hsz hi
  have gs := g.keep kp
  refine codeAny_call_def (fd := fnOf name qual params body scope dV kV doc pm an cdv ct) (body := body) (binds := binds) a.room (gs.k _ _ ho) rfl gs.t.nolimit (codeRec_of gs.k hcd) rfl (BindsTo.of_eq hbind) hcell hloc (fun h₁ hns hk₁ => ?_) hco hgen hk
  have S : St X ⟨A.deeper (envOf qual scope s.heap.objs.size f cdv), h₀, h₀, s.heap.objs.size, s⟩ (fun y => binds.reverse.lookup y) H { s with heap := h₁, toks := s.toks + binds.length } :=
    ⟨g, ⟨hns, fun b o e => hk₁ _ _ (kp _ _ e), hsz⟩, Keep.refl _, fun b o e => hk₁ _ _ (kp _ _ e), by
        cases q : h₀.get? s.heap.objs.size with
        | none => rfl
        | some o => exact absurd (Heap.lt_size (kp _ _ q)) (Nat.lt_irrefl _),
      hin_open hi hk₁, fun b bo e eq => by
        obtain ⟨o, x, _⟩ := hi b bo e
        subst eq; exact absurd (Heap.lt_size x) (Nat.lt_irrefl _), (Same.refl s).to _ _⟩
  refine wpAny_mono ((h _).go _ _ (a.deeper _) S) (fun fl s' z => ?_) fun _ _ e => e
  obtain ⟨m', H', S', q⟩ := z
  refine ⟨_, H', ?_, S'.same, S'.kp, S'.hin, q⟩
  cases fl <;> rfl
/-- a def with one cell, its first parameter's -/
theorem call_defC {x : Str} {v : Option Value} {A : Around} {h₀ : Heap} {s : Shared} (ho : X.K.lookup f = some ⟨oc, od, .func (fnOf name qual params body scope dV kV doc pm an cdv ct), osl⟩) (hcd : codeIn X.K cdv qual = true)
    (hbind : bindArgs (fnOf name qual params body scope dV kV doc pm an cdv ct) ⟨args, []⟩ = pure binds)
    (hc : ∀ k, cellsFrom k scope.names [] = [(x, k)])
    (hkind : ∀ k, ∀ y ∈ binds, scope.names.lookup y.1 = some .local ∨ (scope.names.lookup y.1 = some .cell ∧ ((cellsFrom k scope.names []).lookup y.1).isSome = true))
    {m : Loc} (hm : ∀ L, bindL (envOfC qual scope L f cdv).kindOf binds (fun _ => none) = m) (hv : ∀ L, bindC (envOfC qual scope L f cdv).kindOf binds (fun _ => none) x = v)
    (h : ∀ (C : Cx) (c : Addr), C.h₀ = h₀ → H c = none → W X n C (execs body { scope := scope, locals := C.L, globals := mainGlobals, cells := [(x, c)], qual := qual ++ ".<locals>.", func := some f, code := cdv, frame := some C.L, builtins := builtinsNs }) m (upd H c (.cell v)) (fun fl _ H' => Q (retOf fl) H'))
    (a : AOk A (n + 1)) (g : Grd X h₀) (kp : Keep h₀ s.heap) (hsz : h₀.objs.size ≤ s.heap.objs.size) (hi : HIn h₀ H s.heap)
    (hco : scope.isCoroutine = false := by rfl) (hgen : scope.isGenerator = false := by rfl) (hk : scope.kind = .function := by rfl) :
    codeAny (model X.prog X.w) A (.call (.ref f) ⟨args, []⟩) (fun r s' => ∃ v H', r = .ok (.ret v) ∧ Same s s' ∧ Keep h₀ s'.heap ∧ HIn h₀ H' s'.heap ∧ Q v H') s := by
  have gs := g.keep kp
  refine codeAny_call_cells (fd := fnOf name qual params body scope dV kV doc pm an cdv ct) (body := body) (binds := binds) a.room (gs.k _ _ ho) rfl gs.t.nolimit (codeRec_of gs.k hcd) rfl hbind rfl (hkind _) (fun s₁ x₁ => ?_) hco hgen hk
  have eE : callEnvC (fnOf name qual params body scope dV kV doc pm an cdv ct) s.heap.objs.size f = envOfC qual scope s.heap.objs.size f cdv := rfl
  rw [eE] at x₁ ⊢
  have eC : envOfC qual scope s.heap.objs.size f cdv = { scope := scope, locals := s.heap.objs.size, globals := mainGlobals, cells := [(x, s.heap.objs.size + 1)], qual := qual ++ ".<locals>.", func := some f, code := cdv, frame := some s.heap.objs.size, builtins := builtinsNs } := by
    unfold envOfC; rw [hc]
  obtain ⟨h₁, tk, rfl, hk₁⟩ := x₁.done
  have hL : ∀ o, h₀.get? s.heap.objs.size = some o → False := fun o q => absurd (Heap.lt_size (kp _ _ q)) (Nat.lt_irrefl _)
  have hns : h₁.Ns s.heap.objs.size m := hm s.heap.objs.size ▸ x₁.toInCall.ns
  have hcell := x₁.cell x (s.heap.objs.size + 1) (by rw [eC]; simp [List.lookup])
  rw [hv] at hcell
  obtain ⟨oc', hoc, hdc⟩ := hcell
  have Hn : ∀ b, s.heap.objs.size ≤ b → H b = none := fun b hb => by
    cases q : H b with
    | none => rfl
    | some ao => obtain ⟨o, x, _⟩ := hi b ao q; exact absurd (Heap.lt_size x) (Nat.not_lt.mpr hb)
  have S : St X ⟨A.deeper (envOfC qual scope s.heap.objs.size f cdv), h₀, h₀, s.heap.objs.size, s⟩ m (upd H (s.heap.objs.size + 1) (.cell v)) { s with heap := h₁, toks := tk } :=
    ⟨g, ⟨hns, fun b o e => hk₁ _ _ (kp _ _ e), hsz⟩, Keep.refl _, fun b o e => hk₁ _ _ (kp _ _ e), by
        cases q : h₀.get? s.heap.objs.size with
        | none => rfl
        | some o => exact (hL o q).elim,
      fun b bo e => by
        by_cases q : b = s.heap.objs.size + 1
        · subst q; rw [upd_self] at e; cases e
          refine ⟨oc', hoc, hdc, ?_⟩
          cases q : h₀.get? (s.heap.objs.size + 1) with
          | none => rfl
          | some o => exact absurd (Heap.lt_size (kp _ _ q)) (Nat.not_lt.mpr (Nat.le_succ _))
        · rw [upd_ne q] at e; exact hin_open hi hk₁ b bo e,
      fun b bo e eq => (by
        subst eq
        have e' : upd H (s.heap.objs.size + 1) (.cell v) s.heap.objs.size = some bo := e
        rw [upd_ne (show s.heap.objs.size ≠ s.heap.objs.size + 1 by omega), Hn _ (Nat.le_refl _)] at e'
        cases e'), (Same.refl s).to _ _⟩
  rw [eC] at S ⊢
  refine wpAny_mono ((h _ _ rfl (Hn _ (Nat.le_succ _))).go _ _ (a.deeper _) S) (fun fl s' z => ?_) fun _ _ e => e
  obtain ⟨m', H', S', q⟩ := z
  refine ⟨_, H', ?_, S'.same, S'.kp, S'.hin, q⟩
  cases fl <;> rfl
/-- a def with one cell, its first parameter's -/
theorem spec_defC {x : Str} {v : Value} (ho : X.K.lookup f = some ⟨oc, od, .func (fnOf name qual params body scope dV kV doc pm an cdv ct), osl⟩) (hcd : codeIn X.K cdv qual = true)
    (hbind : bindArgs (fnOf name qual params body scope dV kV doc pm an cdv ct) ⟨args, []⟩ = pure binds)
    (hc : ∀ k, cellsFrom k scope.names [] = [(x, k)])
    (hkind : ∀ k, ∀ y ∈ binds, scope.names.lookup y.1 = some .local ∨ (scope.names.lookup y.1 = some .cell ∧ ((cellsFrom k scope.names []).lookup y.1).isSome = true))
    {m : Loc} (hm : ∀ L, bindL (envOfC qual scope L f cdv).kindOf binds (fun _ => none) = m) (hv : ∀ L, bindC (envOfC qual scope L f cdv).kindOf binds (fun _ => none) x = some v)
    (h : ∀ (C : Cx) (c : Addr), H c = none → W X n C (execs body { scope := scope, locals := C.L, globals := mainGlobals, cells := [(x, c)], qual := qual ++ ".<locals>.", func := some f, code := cdv, frame := some C.L, builtins := builtinsNs }) m (upd H c (.cell (some v))) (fun fl _ H' => Q (retOf fl) H'))
    (hco : scope.isCoroutine = false := by rfl) (hgen : scope.isGenerator = false := by rfl) (hk : scope.kind = .function := by rfl) : Spec X (n + 1) (.ref f) args H Q :=
  ⟨fun _ _ _ a g kp hsz hi => call_defC ho hcd hbind hc hkind hm hv (fun C c _ hn => h C c hn) a g kp hsz hi hco hgen hk⟩
theorem spec_class {Cl fI : Addr} (hm : makesIn X.K Cl = true) (hi : findIn X.K (.ref Cl) "__init__" = some (some (.ref fI))) (hf : typeIn X.K (.ref fI) = some (.type "function"))
    (h : ∀ x dx, H x = none → H dx = none → x ≠ dx → Spec X n (.ref fI) (.ref x :: args) (upd (upd H dx (.ns (fun _ => none) 0)) x (.inst Cl dx)) (fun v H' => v = .none ∧ Q (.ref x) H')) :
    Spec X (n + 1) (.ref Cl) args H Q := by
  constructor
  intro A h₀ s a g kp hsz hin
  obtain ⟨hh, gn, d, t, os⟩ := s
  have X₀ := (g.keep kp).k
  have Hn : ∀ b, hh.objs.size ≤ b → H b = none := fun b hb => by
    cases q : H b with
    | none => rfl
    | some ao => obtain ⟨o, x, _⟩ := hin b ao q; exact absurd (Heap.lt_size x) (Nat.not_lt.mpr hb)
  have hkeep : Keep hh ((hh.push emptyDict).push (instObj Cl hh.objs.size)) := fun b o e => Heap.get?_push_of_some _ (Heap.get?_push_of_some _ e)
  have h0n : ∀ b, hh.objs.size ≤ b → h₀.get? b = none := fun b hb => by
    cases q : h₀.get? b with
    | none => rfl
    | some o => exact absurd (Heap.lt_size (kp _ _ q)) (Nat.not_lt.mpr hb)
  refine make_core (makes_of X₀ hm) (looks_findIn X₀ hi) (fun self => bind_fn X₀ self hf) (.inl rfl) ?_
  have z := (h (hh.objs.size + 1) hh.objs.size (Hn _ (Nat.le_succ _)) (Hn _ (Nat.le_refl _)) (Nat.succ_ne_self _)).go (A.under (.builtin "type.__call__" ⟨.ref Cl :: args, []⟩)) h₀
    ⟨(hh.push emptyDict).push (instObj Cl hh.objs.size), gn, d, t, os⟩ ⟨a.h, by have := a.d; rw [depth_under_make]; omega, by have := a.u; rw [units_under_make]; omega⟩ g (kp.trans hkeep)
    (by show _ ≤ ((hh.push emptyDict).push (instObj Cl hh.objs.size)).objs.size; rw [Heap.size_push, Heap.size_push]; exact Nat.le_trans hsz (Nat.le_trans (Nat.le_succ _) (Nat.le_succ _))) (fun b bo e => by
      by_cases q : b = hh.objs.size + 1
      · subst q; rw [upd_self] at e; cases e
        refine ⟨instObj Cl hh.objs.size, ?_, rfl, h0n _ (Nat.le_succ _)⟩
        have := Heap.get?_push_size (hh.push emptyDict) (o := instObj Cl hh.objs.size) rfl
        rwa [Heap.size_push] at this
      · rw [upd_ne q] at e
        by_cases q' : b = hh.objs.size
        · subst q'; rw [upd_self] at e; cases e
          exact ⟨emptyDict, Heap.get?_push_of_some _ (Heap.get?_push_size _ rfl), ⟨[], 0, rfl, fun _ he => by simp at he, fun _ => rfl, Nat.zero_le _⟩, h0n _ (Nat.le_refl _)⟩
        · rw [upd_ne q'] at e; exact hin_open hin hkeep b bo e)
  refine codeAny_mono z fun r s' ⟨v, H', e, sm, k', hi', hv, q⟩ => ?_
  subst e hv
  exact ⟨rfl, .ref _, H', rfl, by obtain ⟨h', tk', rfl⟩ := sm; exact ⟨h', tk', rfl⟩, k', hi', q⟩
end
end Mine
namespace Mine
open PySem.Calls PySem.Spec
section
variable {X : Fx} {n : Nat} {C : Cx} {m : Loc} {H : Hp} {env : Env}
/-- how a turn of a loop ends -/
def LoopQ (J : Loc → Hp → Prop) (Q : Flow → Loc → Hp → Prop) (f : Flow) (m : Loc) (H : Hp) : Prop := match f with
  | .next => J m H
  | .cont => J m H
  | .brk => Q .next m H
  | .ret v => Q (.ret v) m H
theorem w_While {test : Expr} {body : List Stmt} {pos : Pos} {Q : Flow → Loc → Hp → Prop} (I : Nat → Loc → Hp → Prop) (k : Nat) (h0 : I k m H)
    (turn : ∀ k m H, I k m H → W X n C (isTrue test env (eval test env)) m H (fun b m₁ H₁ => if b = true then W X n C (execs body env) m₁ H₁ (LoopQ (fun m₂ H₂ => ∃ j, j < k ∧ I j m₂ H₂) Q) else Q .next m₁ H₁)) :
    W X n C (exec (.While test body [] pos) env) m H Q := w_of fun E s a S => by
  refine wpAny_While (codeAny_whileLoop (fun k s => ∃ m H, St X C m H s ∧ I k m H) (fun k s hI => ?_) k ⟨m, H, S, h0⟩)
  obtain ⟨m, H, S, hI⟩ := hI
  refine wpAny_mono ((turn k m H hI).go _ s a S) (fun b s' ⟨m₁, H₁, S₁, z⟩ => ?_) fun _ _ e => e
  cases b with
  | false => exact wpAny_execs_nil ⟨m₁, H₁, S₁, z⟩
  | true =>
    refine wpAny_mono ((show W X n C (execs body env) m₁ H₁ _ from z).go _ s' a S₁) (fun f s'' ⟨m₂, H₂, S₂, z⟩ => ?_) fun _ _ e => e
    cases f with
    | next => obtain ⟨j, hj, hI⟩ := z; exact ⟨j, hj, m₂, H₂, S₂, hI⟩
    | cont => obtain ⟨j, hj, hI⟩ := z; exact ⟨j, hj, m₂, H₂, S₂, hI⟩
    | brk => exact ⟨m₂, H₂, S₂, z⟩
    | ret v => exact ⟨m₂, H₂, S₂, z⟩
/-- what is written lies beside what is known -/
theorem St.wrote {s : Shared} (S : St X C m H s) {wr : List Addr} {h' : Heap} {tk : Nat} (k : ∀ b o, b ∉ wr → s.heap.get? b = some o → h'.get? b = some o) (hw : ∀ b ∈ wr, C.h₀.get? b = none ∧ H b = none ∧ b ≠ C.L) : St X C m H { s with heap := h', toks := tk } where
  g := S.g
  fr := ⟨S.fr.ns.at' fun o e => k _ o (fun q => (hw _ q).2.2 rfl) e, fun b o e => k b o (fun q => by have := S.bb _ _ e; rw [(hw _ q).1] at this; cases this) (S.fr.keep b o e), S.fr.above⟩
  bb := S.bb
  kp := fun b o e => k b o (fun q => by rw [(hw _ q).1] at e; cases e) (S.kp b o e)
  nl := S.nl
  hin := fun a ao e => let ⟨o, x, i, z⟩ := S.hin a ao e; ⟨o, k _ _ (fun q => by rw [(hw _ q).2.1] at e; cases e) x, i, z⟩
  lh := S.lh
  same := S.same.to _ _
/-- the objects that an iterator hangs on stand beside what is known -/
structure Aside (C : Cx) (H : Hp) (fp wr : List Addr) (ks : List (Addr × Obj)) (h : Heap) : Prop where
  hfp : ∀ b ∈ fp, H b = none ∧ b ≠ C.L ∧ ∃ o, h.get? b = some o
  hwr : ∀ b ∈ wr, C.h₀.get? b = none ∧ b ∈ fp
  hks : ∀ p ∈ ks, h.get? p.1 = some p.2 ∧ H p.1 = none ∧ p.1 ≠ C.L ∧ p.1 ∉ wr
theorem Aside.next {fp wr : List Addr} {ks : List (Addr × Obj)} {h h' : Heap} (x : Aside C H fp wr ks h) (k : ∀ b o, b ∉ wr → h.get? b = some o → h'.get? b = some o) (hf : ∀ b ∈ fp, ∃ o, h'.get? b = some o) : Aside C H fp wr ks h' :=
  ⟨fun b hb => ⟨(x.hfp b hb).1, (x.hfp b hb).2.1, hf b hb⟩, x.hwr, fun p hp => let ⟨a, b, c, d⟩ := x.hks p hp; ⟨k _ _ d a, b, c, d⟩⟩
theorem Aside.back {fp wr : List Addr} {ks : List (Addr × Obj)} {h : Heap} {s' : Shared} {H' : Hp} {m' : Loc} (x : Aside C H fp wr ks h) (S' : St X { C with h₀ := hideL h H C.L } m' H' s') : Aside C H' fp wr ks s'.heap :=
  ⟨fun b hb => (by
      obtain ⟨a, c, o, e⟩ := x.hfp b hb
      have e' := hideH_get e (show upd H C.L (.cell none) b = none by rw [upd_ne c]; exact a)
      refine ⟨?_, c, o, S'.kp _ _ e'⟩
      cases q : H' b with
      | none => rfl
      | some ao => have := S'.off q; exact nomatch e'.symm.trans this),
    x.hwr, fun p hp => (by
      obtain ⟨e, a, c, d⟩ := x.hks p hp
      have e' := hideH_get e (show upd H C.L (.cell none) p.1 = none by rw [upd_ne c]; exact a)
      refine ⟨S'.kp _ _ e', ?_, c, d⟩
      cases q : H' p.1 with
      | none => rfl
      | some ao => have := S'.off q; exact nomatch e'.symm.trans this)⟩
theorem for_core {target : Expr} {body : List Stmt} {I : Addr} {fp wr : List Addr} {N : Nat} {P : Nat → Value → Prop} {Sx : Nat → Heap → Prop} {ks : List (Addr × Obj)} {Q : Flow → Loc → Hp → Prop}
    (Wk : Walks X.prog X.w C.A I fp wr N P Sx) (hfx : ∀ i h b, b ∈ fp → Sx i h → ∃ o, h.get? b = some o)
    (go : ∀ i v E s (R : Unit → Shared → Prop), P i v → Sx (i + 1) s.heap → R () s → wpAny (model X.prog X.w) C.A (letOwnedTupleGo target (.ref I) v) R E s)
    (J : Nat → Loc → Hp → Prop)
    (step : ∀ i v h m H, i < N → P i v → J i m H → W X n { C with h₀ := h } (assign target env v) m H (fun _ m₁ H₁ => W X n { C with h₀ := h } (execs body env) m₁ H₁ (LoopQ (J (i + 1)) Q)))
    (fin : ∀ m H s, J N m H → St X C m H s → (∀ p ∈ ks, s.heap.get? p.1 = some p.2 ∧ H p.1 = none ∧ p.1 ≠ C.L) → ∃ m' H', St X C m' H' s ∧ Q .next m' H')
    {s : Shared} (a : AOk C.A n) (S : St X C m H s) (hJ : J 0 m H) (hS : Sx 0 s.heap) (hA : Aside C H fp wr ks s.heap) :
    codeAny (model X.prog X.w) C.A (.forLoop target (.ref I) body [] env) (fun r s' => ∃ f m' H', r = .ok f ∧ St X C m' H' s' ∧ Q f m' H') s := by
  refine codeAny_forLoop_any (fun k s => ∃ i m H, St X C m H s ∧ J i m H ∧ Sx i s.heap ∧ Aside C H fp wr ks s.heap ∧ i ≤ N ∧ k = N + 1 - i) ?_ (N + 1) ⟨0, m, H, S, hJ, hS, hA, Nat.zero_le _, rfl⟩
  rintro k s ⟨i, m, H, S, hJ, hS, hA, hi, rfl⟩
  have hw : ∀ b ∈ wr, C.h₀.get? b = none ∧ H b = none ∧ b ≠ C.L := fun b hb => ⟨(hA.hwr b hb).1, (hA.hfp b (hA.hwr b hb).2).1, (hA.hfp b (hA.hwr b hb).2).2.1⟩
  by_cases hlt : i < N
  · refine Wk.item i _ _ _ hlt hS fun v h' tk hP hS' k' => ?_
    have S' := S.wrote (tk := tk) k' hw
    have hA' := hA.next (h' := h') k' fun b hb => hfx _ _ b hb hS'
    refine go i v _ _ _ hP hS' ?_
    refine wpAny_mono ((step i v (hideL h' H C.L) m H hlt hP hJ).go _ _ a S'.base) (fun _ s₂ ⟨m₂, H₂, S₂, z⟩ => ?_) fun _ _ e => e
    refine wpAny_mono (z.go _ _ a S₂) (fun f s₃ ⟨m₃, H₃, S₃, z⟩ => ?_) fun _ _ e => e
    have S₄ := S'.unbase S'.in_base S₃
    have hA₄ := hA'.back S₃
    have hS₄ : Sx (i + 1) s₃.heap := Wk.frame _ _ _ hS' fun b hb o e => by
      obtain ⟨p, q, _⟩ := hA'.hfp b hb
      exact S₃.kp _ _ (hideH_get e (by rw [upd_ne q]; exact p))
    cases f with
    | next => exact ⟨_, by omega, i + 1, m₃, H₃, S₄, z, hS₄, hA₄, hlt, rfl⟩
    | cont => exact ⟨_, by omega, i + 1, m₃, H₃, S₄, z, hS₄, hA₄, hlt, rfl⟩
    | brk => exact ⟨_, m₃, H₃, rfl, S₄, z⟩
    | ret v => exact ⟨_, m₃, H₃, rfl, S₄, z⟩
  · have : i = N := by omega
    subst this
    refine Wk.done _ _ _ hS fun h' tk k' => wpAny_execs_nil ?_
    have S' := S.wrote (tk := tk) k' hw
    obtain ⟨m', H', S'', q⟩ := fin m H _ hJ S' fun p hp => let ⟨a, b, c, d⟩ := hA.hks p hp; ⟨k' _ _ d a, b, c⟩
    exact ⟨_, m', H', rfl, S'', q⟩
end
end Mine
namespace Mine
open PySem.Calls PySem.Spec
section
variable {X : Fx} {n : Nat} {C : Cx} {m : Loc} {H : Hp} {env : Env}
def del (H : Hp) (a : Addr) : Hp := fun b => if b = a then none else H b
theorem del_self (H : Hp) (a : Addr) : del H a a = none := by unfold del; rw [if_pos rfl]
theorem del_ne {H : Hp} {a b : Addr} (h : b ≠ a) : del H a b = H b := by unfold del; rw [if_neg h]
theorem del_of {H : Hp} {a b : Addr} {ao : AO} (h : del H a b = some ao) : H b = some ao ∧ b ≠ a := by
  by_cases q : b = a
  · subst q; rw [del_self] at h; cases h
  · rw [del_ne q] at h; exact ⟨h, q⟩
/-- a loop over a value -/
structure ForIn (X : Fx) (n : Nat) (C : Cx) (target : Expr) (xv : Value) (body : List Stmt) (env : Env) (m : Loc) (H : Hp) (Q : Flow → Loc → Hp → Prop) : Prop where
  of :: go : ∀ E s, AOk C.A n → St X C m H s → wpAny (model X.prog X.w) C.A (pyIter xv) (fun it s₂ =>
    codeAny (model X.prog X.w) C.A (.forLoop target it body [] env) (fun r s' => ∃ f m' H', r = .ok f ∧ St X C m' H' s' ∧ Q f m' H') s₂) E s
theorem w_For {target iter : Expr} {body : List Stmt} {pos : Pos} {Q : Flow → Loc → Hp → Prop} (h : W X n C (eval iter env) m H (fun xv m₁ H₁ => ForIn X n C target xv body env m₁ H₁ Q))
    (hs : ∀ x, foldedSetIterable iter env x = pure x := by intro _; kernel_rfl) : W X n C (exec (.For target iter body [] pos) env) m H Q := w_of fun E s a S =>
  wpAny_For (wpAny_mono (h.go E s a S) (fun xv s₁ ⟨m₁, H₁, S₁, z⟩ => wpAny_mono (z.go E s₁ a S₁) (fun it s₂ z => codeAny_mono z fun r s' ⟨f, m', H', e, S', q⟩ => by subst e; exact ⟨m', H', S', q⟩) fun _ _ e => e) fun _ _ e => e) hs
theorem go_name {x : Str} {p : Pos} {M : Model} {A : Around} {it v : Value} {E s} {R : Unit → Shared → Prop} (h : R () s) : wpAny M A (letOwnedTupleGo (.Name x p) it v) R E s := wpAny_pure h
theorem rangeN (a b c : Int) : 0 ≤ Builtin.Range.rangeSize a b c := by
  unfold Builtin.Range.rangeSize
  split <;> split <;> first | omega | (have := Int.ediv_nonneg (a := b - a - 1) (b := c) (by omega) (by omega); omega) | (have := Int.ediv_nonneg (a := a - b - 1) (b := -c) (by omega) (by omega); omega)
theorem for_range {x : Str} {px : Pos} {body : List Stmt} {r : Addr} {a b c : Int} {Q : Flow → Loc → Hp → Prop} (hr : H r = some (.rng a b c)) (hsm : Builtin.Range.small a b c = true) (N : Nat) (hN : (Builtin.Range.rangeSize a b c).toNat = N)
    (J : Nat → Loc → Hp → Prop) (h0 : J 0 m H)
    (step : ∀ i t h m H, i < N → J i m H → W X n { C with h₀ := h } (execs body env) (setm m x (.int (a + i * c) t)) H (LoopQ (J (i + 1)) Q))
    (fin : ∀ m H, J N m H → Q .next m H)
    (hL : env.locals = C.L := by rfl) (hk : env.scope.kind = .function := by rfl) (hl : env.kindOf x = some .local := by rfl) :
    ForIn X n C (.Name x px) (.ref r) body env m H Q := .of fun E s ok S => by
  obtain ⟨o, ho, t, u, v, rfl⟩ := S.at hr
  refine wpAny_pyIter_range ho hsm ?_
  have hI : H s.heap.objs.size = none := S.fresh (Nat.le_refl _)
  have S' : St X C m H { s with heap := s.heap.push { cls := .type "range_iterator", data := .fields #[rawInt a, rawInt (Builtin.Range.rangeSize a b c), rawInt c] } } := S.kept (tk := s.toks) ((Keep.refl _).push _)
  refine for_core (Walks.range ok.h s.heap.objs.size a c N) (ks := []) (fun i h b hb st => ?_) (fun i v E s R _ _ q => go_name q) J ?_ (fun m H s hJ S _ => ⟨m, H, S, fin m H hJ⟩) ok S' h0 ?_ ⟨fun b hb => ?_, fun b hb => ?_, fun p hp => nomatch hp⟩
  · rw [List.mem_singleton.mp hb]; exact ⟨_, st⟩
  · rintro i v h m H hi ⟨t, rfl⟩ hJ
    exact w_of fun E s a S => wpAny_assign_Name ((w_store (X := X) (n := n) (C := { C with h₀ := h }) (env := env) (H := H) (Q := fun _ m₁ H₁ => W X n { C with h₀ := h } (execs body env) m₁ H₁ (LoopQ (J (i + 1)) Q)) (step i t h m H hi hJ) hL hk hl).go E s a S)
  · have : ((N : Nat) : Int) = Builtin.Range.rangeSize a b c := by rw [← hN]; exact Int.toNat_of_nonneg (rangeN a b c)
    simp only [Int.natCast_zero, Int.zero_mul, Int.add_zero, Int.sub_zero, this]
    exact Heap.get?_push_size _ rfl
  · rw [List.mem_singleton.mp hb]; exact ⟨hI, S.ne_of_size (Nat.le_refl _), _, Heap.get?_push_size _ rfl⟩
  · rw [List.mem_singleton.mp hb]; exact ⟨S.none_of_size (Nat.le_refl _), List.mem_singleton.mpr rfl⟩
theorem w_range1 {k : Int} {t : Tok} {Q : Value → Loc → Hp → Prop} (q : ∀ r, H r = none → Q (.ref r) m (upd H r (.rng 0 k 1))) : W X n C (call (.type "range") [.int k t]) m H Q := w_of fun E s a S =>
  call_range_1 ⟨m, _, S.push (ao := .rng 0 k 1) ⟨_, _, _, rfl⟩, q _ (S.fresh (Nat.le_refl _))⟩
theorem w_range2 {j k : Int} {t u : Tok} {Q : Value → Loc → Hp → Prop} (q : ∀ r, H r = none → Q (.ref r) m (upd H r (.rng j k 1))) : W X n C (call (.type "range") [.int j t, .int k u]) m H Q := w_of fun E s a S =>
  call_range_2 ⟨m, _, S.push (ao := .rng j k 1) ⟨_, _, _, rfl⟩, q _ (S.fresh (Nat.le_refl _))⟩
/-! unpacking -/
theorem w_unpack {elts : List Expr} {k : Nat} {pos : Pos} {t : Addr} {xs : List Value} {Q : Unit → Loc → Hp → Prop} (ht : H t = some (.tup xs)) (hn : (assignEach elts env).length = xs.length) (hstar : (assignEach elts env).findIdx? (·.1) = none)
    (h : W X n C (assignInOrder ((assignEach elts env).map (·.2)) xs) m H Q) : W X n C (assign (.Tuple elts k pos) env (.ref t)) m H Q := w_of fun E s a S => by
  obtain ⟨o, ho, e, rfl⟩ := S.at ht
  have hi : s.heap.IsTuple t xs.toArray := by first | exact ⟨_, ho, rfl, e, rfl⟩ | exact ⟨_, ho, rfl, rfl⟩
  refine wpAny_assign_Tuple a.h hi (by simpa using hn) hstar fun h' k' => ?_
  have S' : St X C m H { s with heap := h' } := S.wrote (tk := s.toks) (wr := [s.heap.objs.size]) (fun b o hb e => k' b o (fun q => hb (List.mem_singleton.mpr q)) e)
    (fun b hb => by rw [List.mem_singleton.mp hb]; exact ⟨S.none_of_size (Nat.le_refl _), S.fresh (Nat.le_refl _), S.ne_of_size (Nat.le_refl _)⟩)
  exact h.go E _ a S'
theorem w_order0 {Q : Unit → Loc → Hp → Prop} (q : Q () m H) : W X n C (assignInOrder [] []) m H Q := w_of fun E s a S => wpAny_assignInOrder_none ⟨m, H, S, q⟩
theorem w_order {t : Value → Sem Unit} {ts : List (Value → Sem Unit)} {x : Value} {xs : List Value} {Q : Unit → Loc → Hp → Prop} (h : W X n C (t x) m H (fun _ m₁ H₁ => W X n C (assignInOrder ts xs) m₁ H₁ Q)) :
    W X n C (assignInOrder (t :: ts) (x :: xs)) m H Q := w_of fun E s a S => wpAny_assignInOrder_more (wpAny_mono (h.go E s a S) (fun _ s' ⟨_, _, S₁, z⟩ => z.go E s' a S₁) fun _ _ e => e)
theorem w_asName {x : Str} {pos : Pos} {v : Value} {Q : Unit → Loc → Hp → Prop} (h : W X n C (storeName env x v) m H Q) : W X n C (assign (.Name x pos) env v) m H Q := w_of fun E s a S => wpAny_assign_Name (h.go E s a S)
theorem w_AssignTup {elts : List Expr} {k : Nat} {pos' pos : Pos} {value : Expr} {Q : Flow → Loc → Hp → Prop}
    (h : W X n C (eval value env) m H (fun v m₁ H₁ => W X n C (assign (.Tuple elts k pos') env v) m₁ H₁ (fun _ m₂ H₂ => Q .next m₂ H₂)))
    (hs : swapsWithSole [.Tuple elts k pos'] value pos.line env = pure false := by kernel_rfl) (hw : swappedStores [.Tuple elts k pos'] value env = pure none := by kernel_rfl) :
    W X n C (exec (.Assign [.Tuple elts k pos'] value pos) env) m H Q := w_of fun E s a S =>
  wpAny_Assign_stores (wpAny_mono (h.go E s a S) (fun v s' ⟨_, _, S₁, z⟩ => z.go E s' a S₁) fun _ _ e => e) hs hw
theorem w_Expr {e : Expr} {pos : Pos} {Q : Flow → Loc → Hp → Prop} (h : W X n C (eval e env) m H (fun _ m₁ H₁ => Q .next m₁ H₁)) (hi : interactive env = false := by kernel_rfl) (hs : swapsWith e none pos.line env = pure false := by kernel_rfl) :
    W X n C (exec (.Expr e pos) env) m H Q := w_of fun E s a S => wpAny_Expr_any (h.go E s a S) hi hs
/-- a loop over a list that is known -/
theorem for_list {target : Expr} {body : List Stmt} {l : Addr} {xs : List Value} {Q : Flow → Loc → Hp → Prop} (hl : H l = some (.list xs))
    (hg : (∃ x p, target = .Name x p) ∨ ((∃ elts k p, target = .Tuple elts k p) ∧ ∀ v ∈ xs, ∃ T, v = .ref T))
    (J : Nat → Loc → Hp → Prop) (h0 : J 0 m (del H l))
    (step : ∀ i v h m H, xs[i]? = some v → J i m H → W X n { C with h₀ := h } (assign target env v) m H (fun _ m₁ H₁ => W X n { C with h₀ := h } (execs body env) m₁ H₁ (LoopQ (J (i + 1)) Q)))
    (fin : ∀ m H, J xs.length m H → H l = none → Q .next m (upd H l (.list xs))) :
    ForIn X n C target (.ref l) body env m H Q := .of fun E s ok S => by
  obtain ⟨o, ho, e, rfl⟩ := S.at hl
  have hls := S.isList hl
  refine wpAny_pyIter_list hls ?_
  have hne : l ≠ s.heap.objs.size := Nat.ne_of_lt (Heap.lt_size ho)
  have hI : H s.heap.objs.size = none := S.fresh (Nat.le_refl _)
  have S' : St X C m (del H l) { s with heap := s.heap.push { cls := .type "list_iterator", data := .fields #[.ref l, .int 0 0] } } := (S.kept (tk := s.toks) ((Keep.refl _).push _)).less fun a ao q => (del_of q).1
  have hlL := S.lh l _ hl
  have eN : xs.toArray.size = xs.length := List.size_toArray ..
  have Wk := Walks.list (prog := X.prog) (w := X.w) ok.h s.heap.objs.size l hne xs.toArray
  rw [eN] at Wk
  refine for_core Wk (ks := [(l, { cls := .type "list", data := .seq xs.toArray e })]) (fun i h b hb st => ?_) (fun i v E s R hP hS q => ?_) J ?_ (fun m H s hJ S' hk => ?_) ok S' h0 ?_ ⟨fun b hb => ?_, fun b hb => ?_, fun p hp => ?_⟩
  · rcases List.mem_cons.mp hb with rfl | hb
    · obtain ⟨o, q, _⟩ := st.1; exact ⟨o, q⟩
    · rw [List.mem_singleton.mp hb]; obtain ⟨o, q, _⟩ := st.2; exact ⟨o, q⟩
  · rcases hg with ⟨x, p, rfl⟩ | ⟨⟨elts, k, p, rfl⟩, hr⟩
    · exact go_name q
    · have hv : v ∈ xs := by
        have : xs[i]? = some v := by simpa using hP
        exact List.mem_of_getElem? this
      obtain ⟨T, rfl⟩ := hr v hv
      exact wpAny_letOwnedTupleGo_listiter hS.1 q
  · rintro i v h m H hi hP hJ
    exact step i v h m H (by simpa using hP) hJ
  · obtain ⟨q1, q2, q3⟩ := hk _ (List.mem_singleton.mpr rfl)
    refine ⟨m, upd H l (.list xs), ⟨S'.g, S'.fr, S'.bb, S'.kp, S'.nl, fun b bo q => ?_, fun b bo q => ?_, S'.same⟩, fin m H hJ q2⟩
    · by_cases h : b = l
      · subst h; rw [upd_self] at q; cases q; exact ⟨_, q1, ⟨e, rfl⟩, S.off hl⟩
      · rw [upd_ne h] at q; exact S'.hin b bo q
    · by_cases h : b = l
      · subst h; exact q3
      · rw [upd_ne h] at q; exact S'.lh b bo q
  · exact ⟨⟨_, Heap.get?_push_size _ rfl, rfl, rfl⟩, hls.push _⟩
  · rcases List.mem_cons.mp hb with rfl | hb
    · exact ⟨by rw [del_ne (Ne.symm hne)]; exact hI, S.ne_of_size (Nat.le_refl _), _, Heap.get?_push_size _ rfl⟩
    · rw [List.mem_singleton.mp hb]; exact ⟨del_self _ _, hlL, _, Heap.get?_push_of_some _ ho⟩
  · rw [List.mem_singleton.mp hb]; exact ⟨S.none_of_size (Nat.le_refl _), .head _⟩
  · rw [List.mem_singleton.mp hp]
    exact ⟨Heap.get?_push_of_some _ ho, del_self _ _, hlL, fun q => hne (List.mem_singleton.mp q)⟩
end
end Mine
namespace Mine
open PySem.Calls PySem.Spec
section
variable {X : Fx} {n : Nat} {C : Cx} {m : Loc} {H : Hp} {env : Env}
/-- into a comprehension's own frame -/
theorem St.inner {s : Shared} (S : St X C m H s) {L' : Addr} {m' : Loc} (hn : s.heap.Ns L' m') (hH : H L' = none) (h0 : C.h₀.get? L' = none) (hb : C.hb.objs.size ≤ L') : St X { C with h₀ := hideL s.heap H L', L := L' } m' H s where
  g := S.g
  fr := ⟨hn, S.fr.keep, hb⟩
  bb := fun b o e => hideH_get (S.fr.keep b o e) (by
    have h1 : b ≠ L' := fun q => by subst q; exact absurd (Heap.lt_size e) (Nat.not_lt.mpr hb)
    rw [upd_ne h1]
    cases q : H b with
    | none => rfl
    | some ao => have := S.offb q; rw [e] at this; cases this)
  kp := fun _ _ e => hideH_of e
  nl := hideH_none (upd_self _ _ _)
  hin := fun a ao e => let ⟨o, x, i, _⟩ := S.hin a ao e; ⟨o, x, i, hideH_none (ao := ao) (by rw [upd_ne (fun q => by subst q; rw [hH] at e; cases e)]; exact e)⟩
  lh := fun a ao e q => by
    have q' : a = L' := q
    subst q'; rw [hH] at e; cases e
  same := S.same
theorem St.outer {s s' : Shared} (S : St X C m H s) {L' : Addr} {m'' : Loc} {H' : Hp} (hL : L' ≠ C.L) (h0 : C.h₀.get? L' = none) (S' : St X { C with h₀ := hideL s.heap H L', L := L' } m'' H' s') : St X C m H' s' := by
  have nL : H C.L = none := by
    cases q : H C.L with
    | none => rfl
    | some ao => exact absurd rfl (S.lh _ _ q)
  obtain ⟨oL, es, ep, hLo, r⟩ := S.fr.ns
  have hLb : (hideL s.heap H L').get? C.L = some oL := hideH_get hLo (by rw [upd_ne (Ne.symm hL)]; exact nL)
  have kb : Keep C.h₀ (hideL s.heap H L') := fun b o e => hideH_get (S.kp b o e) (by
    by_cases h : b = L'
    · subst h; rw [h0] at e; cases e
    · rw [upd_ne h]
      cases q : H b with
      | none => rfl
      | some ao => rw [S.off q] at e; cases e)
  exact ⟨S'.g, ⟨⟨oL, es, ep, S'.kp _ _ hLb, r⟩, S'.fr.keep, S.fr.above⟩, S.bb, kb.trans S'.kp, S.nl, fun a ao e => by
      obtain ⟨o, x, i, z⟩ := S'.hin a ao e
      refine ⟨o, x, i, ?_⟩
      cases q : C.h₀.get? a with
      | none => rfl
      | some o' => have := kb _ _ q; exact (nomatch this.symm.trans z),
    fun a ao e q => by
      subst q
      have := S'.off e
      exact (nomatch hLb.symm.trans this), S'.same⟩
theorem compLoop_go {prog : Program} {w : World} {A : Around} {R : Result → Shared → Prop} {s : Shared} {elt target iter : Expr} {ifs : List Expr} {scope : Scope} {pos : Pos} {it acc : Value} {env : Env} (I : Nat → Shared → Prop)
    (turn : ∀ n s, I n s → wpAny (model prog w) A (pyNext it) (fun r s₁ => match r with
      | none => R (.ok .next) s₁
      | some v => wpAny (model prog w) A (letOwnedTupleGo target it v) (fun _ s₁ => wpAny (model prog w) A (assign target env v) (fun _ s₂ =>
          wpAny (model prog w) A (forIn ifs true fun c r => if r = true then do let ok ← isTrue c env (eval c env); pure (ForInStep.yield ok) else pure (ForInStep.yield r)) (fun ok s₃ =>
            if ok = true then wpAny (model prog w) A (eval elt env) (fun x s₄ =>
              wpAny (model prog w) A (call (.builtin "list.append") [acc, x]) (fun _ s₅ => ∃ m, m < n ∧ I m s₅) (notedBy (model prog w) A env fun e s' => R (.error e) s') s₄) (notedBy (model prog w) A env fun e s' => R (.error e) s') s₃
            else ∃ m, m < n ∧ I m s₃) (notedBy (model prog w) A env fun e s' => R (.error e) s') s₂) (notedBy (model prog w) A env fun e s' => R (.error e) s') s₁) (notedBy (model prog w) A env fun e s' => R (.error e) s') s₁) (notedBy (model prog w) A env fun e s' => R (.error e) s') s)
    (n : Nat) (h : I n s) : codeAny (model prog w) A (.compLoop (.ListComp elt [⟨target, iter, ifs, 0⟩] scope pos) 0 it acc env) R s := by
  refine codeAny_loop rfl I (fun n s hI => ?_) n h
  show wpAny _ A ((compTurn (.ListComp elt [⟨target, iter, ifs, 0⟩] scope pos) 0 it acc env).onRaise (fun x => do noteFrame x env; theTreesLotGoes x)) _ _ s
  refine wpAny_noted ?_
  rw [compTurn_list]
  refine wpAny_bind (wpAny_standAt (wpAny_bind (wpAny_mono (turn n s hI) (fun r s₁ h₁ => ?_) fun _ _ h' => h')))
  cases r with
  | none => exact wpAny_pure h₁
  | some v =>
    refine wpAny_bind (wpAny_mono h₁ (fun _ s₁ h₁ => ?_) fun _ _ h' => h')
    refine wpAny_bind (wpAny_mono h₁ (fun _ s₂ h₂ => wpAny_bind (wpAny_mono h₂ (fun ok s₃ h₃ => ?_) fun _ _ h' => h')) fun _ _ h' => h')
    cases ok with
    | false => exact wpAny_pure ⟨rfl, h₃⟩
    | true =>
      exact wpAny_bind (wpAny_bind (wpAny_mono h₃ (fun x s₄ h₄ => wpAny_bind (wpAny_mono h₄ (fun _ s₅ h₅ => wpAny_pure (wpAny_pure ⟨rfl, h₅⟩)) fun _ _ h' => h')) fun _ _ h' => h'))
/-- the tests of a clause -/
def WTests (X : Fx) (n : Nat) (C : Cx) (ifs : List Expr) (env : Env) (m : Loc) (H : Hp) (Q : Bool → Loc → Hp → Prop) : Prop := match ifs with
  | [] => Q true m H
  | [c] => W X n C (isTrue c env (eval c env)) m H Q
  | _ => False
theorem wtests {ifs : List Expr} {Q : Bool → Loc → Hp → Prop} (h : WTests X n C ifs env m H Q) :
    W X n C (forIn ifs true fun c r => if r = true then do let ok ← isTrue c env (eval c env); pure (ForInStep.yield ok) else pure (ForInStep.yield r)) m H Q := w_of fun E s a S => by
  match ifs, h with
  | [], h => exact wpAny_tests_nil ⟨m, H, S, h⟩
  | [c], h => exact wpAny_tests_one (h.go E s a S)
structure Acc (C : Cx) (H : Hp) (fp : List Addr) (D L' : Addr) (ys : List Value) (h : Heap) : Prop where
  d : ∃ k, h.get? D = some { cls := .type "list", data := .seq ys.toArray k }
  hd : H D = none
  dL : D ≠ C.L
  d0 : C.h₀.get? D = none
  df : D ∉ fp
  dl : D ≠ L'
  l : H L' = none
  lL : L' ≠ C.L
  l0 : C.h₀.get? L' = none
  lf : L' ∉ fp
  lb : C.hb.objs.size ≤ L'
  ln : ∃ m', h.Ns L' m'
theorem comp_core {elt target iter : Expr} {ifs : List Expr} {scope : Scope} {pos : Pos} {cl : List (Str × Addr)} {I D L' : Addr} {fp wr : List Addr} {N : Nat} {P : Nat → Value → Prop} {Sx : Nat → Heap → Prop} {ks : List (Addr × Obj)} {R : Result → Shared → Prop}
    (Wk : Walks X.prog X.w C.A I fp wr N P Sx) (hfx : ∀ i h b, b ∈ fp → Sx i h → ∃ o, h.get? b = some o)
    (go : ∀ i v E s (R : Unit → Shared → Prop), P i v → Sx (i + 1) s.heap → R () s → wpAny (model X.prog X.w) C.A (letOwnedTupleGo target (.ref I) v) R E s)
    (J : Nat → List Value → Hp → Prop) (hNs : N ≤ sizeLine)
    (step : ∀ i v ys h m' H, i < N → P i v → J i ys H → ys.length ≤ i → W X n { C with h₀ := h, L := L' } (assign target (compEnvC scope cl L' env) v) m' H (fun _ m₁ H₁ =>
      WTests X n { C with h₀ := h, L := L' } ifs (compEnvC scope cl L' env) m₁ H₁ (fun ok m₂ H₂ =>
        if ok = true then W X n { C with h₀ := h, L := L' } (eval elt (compEnvC scope cl L' env)) m₂ H₂ (fun y _ H₃ => J (i + 1) (ys ++ [y]) H₃) else J (i + 1) ys H₂)))
    (fin : ∀ ys H s, J N ys H → ys.length ≤ N → St X C m H s → Acc C H fp D L' ys s.heap → (∀ p ∈ ks, s.heap.get? p.1 = some p.2 ∧ H p.1 = none ∧ p.1 ≠ C.L) → R (.ok .next) s)
    {s : Shared} (a : AOk C.A n) (S : St X C m H s) (hJ : J 0 [] H) (hS : Sx 0 s.heap) (hA : Aside C H fp wr ks s.heap) (hC : Acc C H fp D L' [] s.heap) (hkD : ∀ p ∈ ks, p.1 ≠ D ∧ p.1 ≠ L') :
    codeAny (model X.prog X.w) C.A (.compStart (.ListComp elt [⟨target, iter, ifs, 0⟩] scope pos) 0 (.ref I) (.ref D) (compEnvC scope cl L' env)) R s := by
  have loop : codeAny (model X.prog X.w) C.A (.compLoop (.ListComp elt [⟨target, iter, ifs, 0⟩] scope pos) 0 (.ref I) (.ref D) (compEnvC scope cl L' env)) R s := by
    refine compLoop_go (fun k s => ∃ i ys H, St X C m H s ∧ J i ys H ∧ Sx i s.heap ∧ Aside C H fp wr ks s.heap ∧ Acc C H fp D L' ys s.heap ∧ ys.length ≤ i ∧ i ≤ N ∧ k = N + 1 - i) ?_ (N + 1) ⟨0, [], H, S, hJ, hS, hA, hC, Nat.le_refl _, Nat.zero_le _, rfl⟩
    rintro k s ⟨i, ys, H, S, hJ, hS, hA, hC, hy, hi, rfl⟩
    have hw : ∀ b ∈ wr, C.h₀.get? b = none ∧ H b = none ∧ b ≠ C.L := fun b hb => ⟨(hA.hwr b hb).1, (hA.hfp b (hA.hwr b hb).2).1, (hA.hfp b (hA.hwr b hb).2).2.1⟩
    have accW : ∀ h', (∀ b o, b ∉ wr → s.heap.get? b = some o → h'.get? b = some o) → Acc C H fp D L' ys h' := fun h' k' =>
      let ⟨kd, ed⟩ := hC.d; let ⟨m', en⟩ := hC.ln
      { hC with d := ⟨kd, k' _ _ (fun q => hC.df (hA.hwr _ q).2) ed⟩, ln := ⟨m', en.at' fun o e => k' _ _ (fun q => hC.lf (hA.hwr _ q).2) e⟩ }
    by_cases hlt : i < N
    · refine Wk.item i _ _ _ hlt hS fun v h' tk hP hS' k' => ?_
      have S' := S.wrote (tk := tk) k' hw
      have hA' := hA.next (h' := h') k' fun b hb => hfx _ _ b hb hS'
      have hC' := accW h' k'
      obtain ⟨kd, ed⟩ := hC'.d
      obtain ⟨m', en⟩ := hC'.ln
      refine go i v _ _ _ hP hS' ?_
      have Si := S'.inner en hC'.l hC'.l0 hC'.lb
      refine wpAny_mono ((step i v ys (hideL h' H L') m' H hlt hP hJ hy).go _ _ a Si) (fun _ s₂ ⟨m₂, H₂, S₂, z⟩ => ?_) fun _ _ e => e
      have back : ∀ {m₃ H₃ s₃}, St X { C with h₀ := hideL h' H L', L := L' } m₃ H₃ s₃ → St X C m H₃ s₃ ∧ Aside C H₃ fp wr ks s₃.heap ∧ Sx (i + 1) s₃.heap ∧ Acc C H₃ fp D L' ys s₃.heap := fun {m₃ H₃ s₃} S₃ => by
        have S₄ := S'.outer hC'.lL hC'.l0 S₃
        have kb : ∀ b o, h'.get? b = some o → H b = none → b ≠ L' → (s₃.heap.get? b = some o ∧ H₃ b = none) := fun b o e h1 h2 => by
          have e' : (hideL h' H L').get? b = some o := hideH_get e (by rw [upd_ne h2]; exact h1)
          refine ⟨S₃.kp _ _ e', ?_⟩
          cases q : H₃ b with
          | none => rfl
          | some ao => have := S₃.off q; exact nomatch e'.symm.trans this
        refine ⟨S₄, ⟨fun b hb => ?_, hA'.hwr, fun p hp => ?_⟩, ?_, ?_⟩
        · obtain ⟨p, q, o, e⟩ := hA'.hfp b hb
          obtain ⟨x, y⟩ := kb b o e p fun q => hC'.lf (q ▸ hb)
          exact ⟨y, q, o, x⟩
        · obtain ⟨e, p', q, d⟩ := hA'.hks p hp
          obtain ⟨x, y⟩ := kb _ _ e p' (hkD p hp).2
          exact ⟨x, y, q, d⟩
        · exact Wk.frame _ _ _ hS' fun b hb o e => (kb b o e (hA'.hfp b hb).1 fun q => hC'.lf (q ▸ hb)).1
        · obtain ⟨x, y⟩ := kb _ _ ed hC'.hd hC'.dl
          refine { hC' with d := ⟨kd, x⟩, hd := y, l := ?_, ln := ⟨_, S₃.fr.ns⟩ }
          cases q : H₃ L' with
          | none => rfl
          | some ao => exact absurd rfl (S₃.lh _ _ q)
      refine wpAny_mono ((wtests z).go _ _ a S₂) (fun ok s₃ ⟨m₃, H₃, S₃, z⟩ => ?_) fun _ _ e => e
      cases ok with
      | false =>
        obtain ⟨S₄, A₄, X₄, C₄⟩ := back S₃
        rw [if_neg (by decide)] at z ⊢
        exact ⟨_, by omega, i + 1, ys, H₃, S₄, z, X₄, A₄, C₄, Nat.le_succ_of_le hy, hlt, rfl⟩
      | true =>
        rw [if_pos rfl] at z ⊢
        refine wpAny_mono (z.go _ _ a S₃) (fun y s₄ ⟨m₄, H₄, S₄, z⟩ => ?_) fun _ _ e => e
        obtain ⟨S₅, A₅, X₅, C₅⟩ := back S₄
        obtain ⟨kd', ed'⟩ := C₅.d
        refine append_at (hsz := by rw [List.size_toArray]; omega) ed' fun h₆ hs₆ hD₆ => ?_
        have S₆ : St X C m H₄ { s₄ with heap := h₆ } := S₅.wrote (tk := s₄.toks) (wr := [D]) (fun b o hb e => hs₆.extBut b o (fun q => hb (List.mem_singleton.mpr q)) e)
          (fun b hb => by rw [List.mem_singleton.mp hb]; exact ⟨C₅.d0, C₅.hd, C₅.dL⟩)
        have kk : ∀ b o, b ≠ D → s₄.heap.get? b = some o → h₆.get? b = some o := fun b o hb e => hs₆.extBut b o hb e
        obtain ⟨m₅, en₅⟩ := C₅.ln
        refine ⟨_, by omega, i + 1, ys ++ [y], H₄, S₆, z, Wk.frame _ _ _ X₅ fun b hb o e => kk b o (fun q => C₅.df (q ▸ hb)) e, ⟨fun b hb => ?_, A₅.hwr, fun p hp => ?_⟩,
          { C₅ with d := ⟨_, by rw [hD₆, List.push_toArray]⟩, ln := ⟨m₅, en₅.at' fun o e => kk _ o (Ne.symm C₅.dl) e⟩ }, by simp; omega, hlt, rfl⟩
        · obtain ⟨p, q, o, e⟩ := A₅.hfp b hb; exact ⟨p, q, o, kk b o (fun q => C₅.df (q ▸ hb)) e⟩
        · obtain ⟨e, r⟩ := A₅.hks p hp; exact ⟨kk _ _ (hkD p hp).1 e, r⟩
    · have : i = N := by omega
      subst this
      refine Wk.done _ _ _ hS fun h' tk k' => ?_
      have S' := S.wrote (tk := tk) k' hw
      exact fin ys H _ hJ hy S' (accW h' k') fun p hp => let ⟨a, b, c, d⟩ := hA.hks p hp; ⟨k' _ _ d a, b, c⟩
  exact codeAny_compStart_list loop (Wk.self 0 _ _ _ hS loop)
end
end Mine
namespace Mine
open PySem.Calls PySem.Spec
section
variable {X : Fx} {n : Nat} {C : Cx} {m : Loc} {H : Hp} {env : Env}
def CompStep (X : Fx) (n : Nat) (C : Cx) (target : Expr) (ifs : List Expr) (elt : Expr) (scope : Scope) (cl : List (Str × Addr)) (env : Env) (N : Nat) (P : Nat → Value → Prop) (J : Nat → List Value → Hp → Prop) : Prop :=
  ∀ i v ys h L' m' H, i < N → P i v → J i ys H → ys.length ≤ i → W X n { C with h₀ := h, L := L' } (assign target (compEnvC scope cl L' env) v) m' H (fun _ m₁ H₁ =>
    WTests X n { C with h₀ := h, L := L' } ifs (compEnvC scope cl L' env) m₁ H₁ (fun ok m₂ H₂ =>
      if ok = true then W X n { C with h₀ := h, L := L' } (eval elt (compEnvC scope cl L' env)) m₂ H₂ (fun y _ H₃ => J (i + 1) (ys ++ [y]) H₃) else J (i + 1) ys H₂))
structure CompIn (X : Fx) (n : Nat) (C : Cx) (target : Expr) (ifs : List Expr) (elt : Expr) (scope : Scope) (cl : List (Str × Addr)) (xv : Value) (env : Env) (m : Loc) (H : Hp) (Fin : List Value → Hp → Prop) : Prop where
  of :: go : ∀ E s, AOk C.A n → St X C m H s → wpAny (model X.prog X.w) C.A (pyIter xv) (fun it s₂ => ∃ (I : Addr) (fp wr : List Addr) (N : Nat) (P : Nat → Value → Prop) (Sx : Nat → Heap → Prop) (ks : List (Addr × Obj)) (J : Nat → List Value → Hp → Prop) (H₁ : Hp),
    it = .ref I ∧ Walks X.prog X.w C.A I fp wr N P Sx ∧ (∀ i h b, b ∈ fp → Sx i h → ∃ o, h.get? b = some o) ∧
    (∀ i v E s (R : Unit → Shared → Prop), P i v → Sx (i + 1) s.heap → R () s → wpAny (model X.prog X.w) C.A (letOwnedTupleGo target (.ref I) v) R E s) ∧ N ≤ sizeLine ∧
    CompStep X n C target ifs elt scope cl env N P J ∧ J 0 [] H₁ ∧ St X C m H₁ s₂ ∧ Sx 0 s₂.heap ∧ Aside C H₁ fp wr ks s₂.heap ∧ (∀ b ∈ fp, b < s₂.heap.objs.size) ∧ (∀ p ∈ ks, p.1 < s₂.heap.objs.size) ∧
    (∀ ys H s, J N ys H → ys.length ≤ N → St X C m H s → (∀ p ∈ ks, s.heap.get? p.1 = some p.2 ∧ H p.1 = none ∧ p.1 ≠ C.L) → ∃ H', St X C m H' s ∧ Fin ys H' ∧ ∀ b, H b = none → (∀ p ∈ ks, p.1 ≠ b) → H' b = none)) E s
theorem comp_range {x : Str} {px : Pos} {ifs : List Expr} {elt : Expr} {scope : Scope} {cl : List (Str × Addr)} {r : Addr} {a b c : Int} {Fin : List Value → Hp → Prop} (hr : H r = some (.rng a b c)) (hsm : Builtin.Range.small a b c = true)
    (N : Nat) (hN : (Builtin.Range.rangeSize a b c).toNat = N) (hNs : N ≤ sizeLine) (J : Nat → List Value → Hp → Prop) (h0 : J 0 [] H)
    (step : CompStep X n C (.Name x px) ifs elt scope cl env N (fun i v => ∃ t, v = .int (a + i * c) t) J) (fin : ∀ ys H, J N ys H → ys.length ≤ N → Fin ys H) :
    CompIn X n C (.Name x px) ifs elt scope cl (.ref r) env m H Fin := .of fun E s ok S => by
  obtain ⟨o, ho, t, u, v, rfl⟩ := S.at hr
  refine wpAny_pyIter_range ho hsm ?_
  have hI : H s.heap.objs.size = none := S.fresh (Nat.le_refl _)
  have S' : St X C m H { s with heap := s.heap.push { cls := .type "range_iterator", data := .fields #[rawInt a, rawInt (Builtin.Range.rangeSize a b c), rawInt c] } } := S.kept (tk := s.toks) ((Keep.refl _).push _)
  have Wk := Walks.range (prog := X.prog) (w := X.w) ok.h s.heap.objs.size a c N
  refine ⟨_, _, _, N, _, _, [], J, H, rfl, Wk, fun i h b hb st => ?_, fun i v E s R _ _ q => go_name q, hNs, ?_, h0, S', ?_, ⟨fun b hb => ?_, fun b hb => ?_, fun p hp => nomatch hp⟩, fun b hb => ?_, fun p hp => (nomatch hp), fun ys H s hJ hl S _ => ⟨H, S, fin ys H hJ hl, fun _ q _ => q⟩⟩
  · rw [List.mem_singleton.mp hb]; exact ⟨_, st⟩
  · exact step
  · have : ((N : Nat) : Int) = Builtin.Range.rangeSize a b c := by rw [← hN]; exact Int.toNat_of_nonneg (rangeN a b c)
    simp only [Int.natCast_zero, Int.zero_mul, Int.add_zero, Int.sub_zero, this]
    exact Heap.get?_push_size _ rfl
  · rw [List.mem_singleton.mp hb]; exact ⟨hI, S.ne_of_size (Nat.le_refl _), _, Heap.get?_push_size _ rfl⟩
  · rw [List.mem_singleton.mp hb]; exact ⟨S.none_of_size (Nat.le_refl _), List.mem_singleton.mpr rfl⟩
  · rw [List.mem_singleton.mp hb]; show _ < (s.heap.push _).objs.size; rw [Heap.size_push]; exact Nat.lt_succ_self _
theorem comp_list {target : Expr} {ifs : List Expr} {elt : Expr} {scope : Scope} {cl : List (Str × Addr)} {l : Addr} {xs : List Value} {Fin : List Value → Hp → Prop} (hl : H l = some (.list xs)) (hNs : xs.length ≤ sizeLine)
    (hg : (∃ x p, target = .Name x p) ∨ ((∃ elts k p, target = .Tuple elts k p) ∧ ∀ v ∈ xs, ∃ T, v = .ref T))
    (J : Nat → List Value → Hp → Prop) (h0 : J 0 [] (del H l))
    (step : CompStep X n C target ifs elt scope cl env xs.length (fun i v => xs[i]? = some v) J) (fin : ∀ ys H, J xs.length ys H → ys.length ≤ xs.length → H l = none → Fin ys (upd H l (.list xs))) :
    CompIn X n C target ifs elt scope cl (.ref l) env m H Fin := .of fun E s ok S => by
  obtain ⟨o, ho, e, rfl⟩ := S.at hl
  have hls := S.isList hl
  refine wpAny_pyIter_list hls ?_
  have hne : l ≠ s.heap.objs.size := Nat.ne_of_lt (Heap.lt_size ho)
  have hI : H s.heap.objs.size = none := S.fresh (Nat.le_refl _)
  have S' : St X C m (del H l) { s with heap := s.heap.push { cls := .type "list_iterator", data := .fields #[.ref l, .int 0 0] } } := (S.kept (tk := s.toks) ((Keep.refl _).push _)).less fun a ao q => (del_of q).1
  have hlL := S.lh l _ hl
  have eN : xs.toArray.size = xs.length := List.size_toArray ..
  have Wk := Walks.list (prog := X.prog) (w := X.w) ok.h s.heap.objs.size l hne xs.toArray
  rw [eN] at Wk
  refine ⟨_, _, _, xs.length, _, _, [(l, { cls := .type "list", data := .seq xs.toArray e })], J, del H l, rfl, Wk, fun i h b hb st => ?_, fun i v E s R hP hS q => ?_, hNs, ?_, h0, S', ?_, ⟨fun b hb => ?_, fun b hb => ?_, fun p hp => ?_⟩, fun b hb => ?_, fun p hp => ?_, fun ys H s hJ hy S' hk => ?_⟩
  · rcases List.mem_cons.mp hb with rfl | hb
    · obtain ⟨o, q, _⟩ := st.1; exact ⟨o, q⟩
    · rw [List.mem_singleton.mp hb]; obtain ⟨o, q, _⟩ := st.2; exact ⟨o, q⟩
  · rcases hg with ⟨x, p, rfl⟩ | ⟨⟨elts, k, p, rfl⟩, hr⟩
    · exact go_name q
    · have hv : v ∈ xs := by
        have : xs[i]? = some v := by simpa using hP
        exact List.mem_of_getElem? this
      obtain ⟨T, rfl⟩ := hr v hv
      exact wpAny_letOwnedTupleGo_listiter hS.1 q
  · intro i v ys h L' m' H hi hP hJ hy
    exact step i v ys h L' m' H hi (by simpa using hP) hJ hy
  · exact ⟨⟨_, Heap.get?_push_size _ rfl, rfl, rfl⟩, hls.push _⟩
  · rcases List.mem_cons.mp hb with rfl | hb
    · exact ⟨by rw [del_ne (Ne.symm hne)]; exact hI, S.ne_of_size (Nat.le_refl _), _, Heap.get?_push_size _ rfl⟩
    · rw [List.mem_singleton.mp hb]; exact ⟨del_self _ _, hlL, _, Heap.get?_push_of_some _ ho⟩
  · rw [List.mem_singleton.mp hb]; exact ⟨S.none_of_size (Nat.le_refl _), .head _⟩
  · rw [List.mem_singleton.mp hp]
    exact ⟨Heap.get?_push_of_some _ ho, del_self _ _, hlL, fun q => hne (List.mem_singleton.mp q)⟩
  · show _ < (s.heap.push _).objs.size
    rw [Heap.size_push]
    rcases List.mem_cons.mp hb with rfl | hb
    · exact Nat.lt_succ_self _
    · rw [List.mem_singleton.mp hb]; exact Nat.lt_succ_of_lt (Heap.lt_size ho)
  · rw [List.mem_singleton.mp hp]; show _ < (s.heap.push _).objs.size; rw [Heap.size_push]; exact Nat.lt_succ_of_lt (Heap.lt_size ho)
  · obtain ⟨q1, q2, q3⟩ := hk _ (List.mem_singleton.mpr rfl)
    refine ⟨upd H l (.list xs), ⟨S'.g, S'.fr, S'.bb, S'.kp, S'.nl, fun b bo q => ?_, fun b bo q => ?_, S'.same⟩, fin ys H hJ hy q2, fun b hb hp => ?_⟩
    · by_cases h : b = l
      · subst h; rw [upd_self] at q; cases q; exact ⟨_, q1, ⟨e, rfl⟩, S.off hl⟩
      · rw [upd_ne h] at q; exact S'.hin b bo q
    · by_cases h : b = l
      · subst h; exact q3
      · rw [upd_ne h] at q; exact S'.lh b bo q
    · rw [upd_ne (Ne.symm (hp _ (List.mem_singleton.mpr rfl)))]; exact hb
theorem St.put {D : Addr} {ao : AO} {o : Obj} {s : Shared} (S : St X C m H s) (e : s.heap.get? D = some o) (i : ao.Is o) (h0 : C.h₀.get? D = none) (hL : D ≠ C.L) : St X C m (upd H D ao) s :=
  ⟨S.g, S.fr, S.bb, S.kp, S.nl, fun b bo q => by
    by_cases h : b = D
    · subst h; rw [upd_self] at q; cases q; exact ⟨_, e, i, h0⟩
    · rw [upd_ne h] at q; exact S.hin b bo q, fun b bo q => by
    by_cases h : b = D
    · subst h; exact hL
    · rw [upd_ne h] at q; exact S.lh b bo q, S.same⟩
theorem comp_run {target iter : Expr} {ifs : List Expr} {elt : Expr} {scope : Scope} {cl : List (Str × Addr)} {pos : Pos} {xv : Value} {Fin : List Value → Hp → Prop} {RR : Value → Addr → Result → Shared → Prop}
    (h : CompIn X n C target ifs elt scope cl xv env m H Fin) (hcell : ∀ y ∈ scope.names, y.2 ≠ .cell) (hkind : scope.kind = .function)
    (fin : ∀ D L' ys H H₁ fp s, Fin ys H → H D = none → St X C m H s → H L' = none → Acc C H₁ fp D L' ys s.heap → RR (.ref D) L' (.ok .next) s) {E : Value → Shared → Prop} {s : Shared} (a : AOk C.A n) (S : St X C m H s) :
    wpAny (model X.prog X.w) C.A (pyIter xv) (fun it s₂ => wpAny (model X.prog X.w) C.A (newList []) (fun acc s₃ => wpAny (model X.prog X.w) C.A (newFunctionEnv scope env.globals cl [] env.qual none .none (some env)) (fun cenv s₄ =>
      codeAny (model X.prog X.w) C.A (.compStart (.ListComp elt [⟨target, iter, ifs, 0⟩] scope pos) 0 it acc { cenv with scope := relabel scope env }) (RR acc cenv.locals) s₄) E s₃) E s₂) E s := by
  refine wpAny_mono (h.go E s a S) (fun it s₂ z => ?_) fun _ _ e => e
  obtain ⟨I, fp, wr, N, P, Sx, ks, J, H₁, rfl, Wk, hfx, go, hNs, step, hJ, S₂, hS, hA, hfp, hks, back⟩ := z
  refine wpAny_newObj_type (wpAny_newFunctionEnv hcell (by intro y hy; simp at hy) (fun h₁ hns₁ hsb₁ => ?_) hkind)
  dsimp only at hns₁ hsb₁ ⊢
  have k1 : Keep s₂.heap (s₂.heap.push { cls := .type "list", dict := none, data := .seq ([] : List Value).toArray }) := (Keep.refl _).push _
  have lt : ∀ b, b < s₂.heap.objs.size → b ≠ (s₂.heap.push { cls := .type "list", dict := none, data := .seq ([] : List Value).toArray }).objs.size := fun b hb => by rw [Heap.size_push]; exact Nat.ne_of_lt (Nat.lt_succ_of_lt hb)
  have hLe : s₂.heap.objs.size ≤ (s₂.heap.push { cls := .type "list", dict := none, data := .seq ([] : List Value).toArray }).objs.size := by rw [Heap.size_push]; exact Nat.le_succ _
  have hDL : s₂.heap.objs.size ≠ (s₂.heap.push { cls := .type "list", dict := none, data := .seq ([] : List Value).toArray }).objs.size := by rw [Heap.size_push]; exact Nat.ne_of_lt (Nat.lt_succ_self _)
  have kk : Keep s₂.heap h₁ := fun b o e => hsb₁.extBut b o (lt b (Heap.lt_size e)) (Heap.get?_push_of_some _ (k1 b o e))
  have S₄ : St X C m H₁ { s₂ with heap := h₁, toks := s₂.toks + ([] : List (Str × Value)).length } := S₂.kept kk
  have hdD : h₁.get? s₂.heap.objs.size = some { cls := .type "list", data := .seq ([] : List Value).toArray } := hsb₁.extBut _ _ hDL (Heap.get?_push_of_some _ (Heap.get?_push_size _ rfl))
  have hAs : Aside C H₁ fp wr ks h₁ := ⟨fun b hb => let ⟨p, q, o, e⟩ := hA.hfp b hb; ⟨p, q, o, kk b o e⟩, hA.hwr, fun p hp => let ⟨e, r⟩ := hA.hks p hp; ⟨kk _ _ e, r⟩⟩
  refine comp_core (N := N) (ks := ks) Wk hfx go J hNs (fun i v ys h m' H hi hP hJ hy => step i v ys h _ m' H hi hP hJ hy) (fun ys H s hJ hy S hC hk => ?_) a S₄ hJ (Wk.frame _ _ _ hS fun b _ o e => kk b o e) hAs ?_ fun p hp => ?_
  · obtain ⟨H', S', hF, hn⟩ := back ys H s hJ hy S hk
    exact fin _ _ _ H' _ _ _ hF (hn _ hC.hd fun p hp => Nat.ne_of_lt (hks p hp)) S' (hn _ hC.l fun p hp => lt _ (hks p hp)) hC
  · exact ⟨⟨_, hdD⟩, S₂.fresh (Nat.le_refl _), S₂.ne_of_size (Nat.le_refl _), S₂.none_of_size (Nat.le_refl _), fun q => Nat.lt_irrefl _ (hfp _ q), hDL, S₂.fresh hLe, S₂.ne_of_size hLe, S₂.none_of_size hLe, fun q => lt _ (hfp _ q) rfl,
      Nat.le_trans S₂.fr.above (Nat.le_trans (Nat.le_of_lt S₂.fr.ns.lt) hLe), ⟨_, hns₁⟩⟩
  · exact ⟨Nat.ne_of_lt (hks p hp), lt _ (hks p hp)⟩
theorem St.gone {s : Shared} (S : St X C m H s) {L' : Addr} (hn : H L' = none) (hL : L' ≠ C.L) (h0 : C.h₀.get? L' = none) {h' : Heap} (hs : Heap.SameBut L' s.heap h') : St X C m H { s with heap := h' } :=
  S.wrote (tk := s.toks) (wr := [L']) (fun b o hb e => hs.extBut b o (fun q => hb (List.mem_singleton.mpr q)) e) fun b hb => by rw [List.mem_singleton.mp hb]; exact ⟨h0, hn, hL⟩
theorem w_ListComp {target iter : Expr} {ifs : List Expr} {elt : Expr} {scope : Scope} {pos : Pos} {Q : Value → Loc → Hp → Prop} (cl : List (Str × Addr)) (hclos : closureFor scope env = pure cl)
    (h : W X n C (eval iter env) m H (fun xv m₁ H₁ => CompIn X n C target ifs elt scope cl xv env m₁ H₁ (fun ys H₂ => ∀ D, H₂ D = none → Q (.ref D) m₁ (upd H₂ D (.list ys)))))
    (hcell : ∀ y ∈ scope.names, y.2 ≠ .cell := by decide) (hkind : scope.kind = .function := by rfl) (hnames : ∀ y ∈ scope.names, y.2 = .local → scope.names.lookup y.1 = some .local := by decide)
    (hs : ∀ x, foldedSetIterable iter env x = pure x := by intro _; rfl) : W X n C (eval (.ListComp elt [⟨target, iter, ifs, 0⟩] scope pos) env) m H Q := w_of fun E s a S => by
  rw [eval_ListComp]
  refine wpAny_comprehension_free (use := none) rfl hs hclos hkind hnames (wpAny_mono (h.go E s a S) (fun xv s₁ ⟨m₁, H₁, S₁, z⟩ => ?_) fun _ _ e => e)
  refine comp_run (RR := fun acc L r s' => compPost (model X.prog X.w) C.A E none _ acc L r s') z hcell hkind ?_ a S₁
  intro D L' ys H₂ H₃ fp s' hF hD S' hL' hC
  obtain ⟨m', en⟩ := hC.ln
  refine ⟨m', en, fun h' hs' => ?_⟩
  have S₅ := S'.gone hL' hC.lL hC.l0 hs'
  obtain ⟨kd, ed⟩ := hC.d
  exact ⟨m₁, _, S₅.put (ao := .list ys) (hs'.extBut _ _ hC.dl ed) ⟨kd, rfl⟩ hC.d0 hC.dL, hF D hD⟩
theorem w_AssignComp {target iter : Expr} {ifs : List Expr} {elt : Expr} {scope : Scope} {pos py spos : Pos} {y : Str} {Q : Flow → Loc → Hp → Prop} (cl : List (Str × Addr)) (hclos : closureFor scope env = pure cl)
    (h : W X n C (eval iter env) m H (fun xv m₁ H₁ => CompIn X n C target ifs elt scope cl xv env m₁ H₁ (fun ys H₂ => ∀ D, H₂ D = none → Q .next (setm m₁ y (.ref D)) (upd H₂ D (.list ys)))))
    (hsw : swapsWith (.ListComp elt [⟨target, iter, ifs, 0⟩] scope pos) (some (.Name y py)) spos.line env = pure true := by rfl)
    (hcell : ∀ y ∈ scope.names, y.2 ≠ .cell := by decide) (hkind : scope.kind = .function := by rfl) (hnames : ∀ y ∈ scope.names, y.2 = .local → scope.names.lookup y.1 = some .local := by decide)
    (hL : env.locals = C.L := by rfl) (hk : env.scope.kind = .function := by rfl) (hl : env.kindOf y = some .local := by rfl)
    (hs : ∀ x, foldedSetIterable iter env x = pure x := by intro _; rfl) : W X n C (exec (.Assign [.Name y py] (.ListComp elt [⟨target, iter, ifs, 0⟩] scope pos) spos) env) m H Q := w_of fun E s a S => by
  rw [exec_Assign_Name_used _ _ _ _ hsw]
  refine wpAny_bind (wpAny_standAt (wpAny_bind ?_))
  show wpAny _ _ (do let _ ← comprehension (.ListComp elt [⟨target, iter, ifs, 0⟩] scope pos) scope env _ (newList []) false (eval iter env) (some (assign (.Name y py) env))) _ _ s
  refine wpAny_bind (wpAny_mono (wpAny_comprehension_free (use := some (assign (.Name y py) env)) (Q := fun _ s' => ∃ m' H', St X C m' H' s' ∧ Q .next m' H') rfl hs hclos hkind hnames
    (wpAny_mono (h.go E s a S) (fun xv s₁ ⟨m₁, H₁, S₁, z⟩ => ?_) fun _ _ e => e)) (fun _ s' hq => wpAny_pure (wpAny_pure hq)) fun _ _ e => e)
  refine comp_run (RR := fun acc L r s' => compPost (model X.prog X.w) C.A E (some (assign (.Name y py) env)) _ acc L r s') z hcell hkind ?_ a S₁
  intro D L' ys H₂ H₃ fp s' hF hD S' hL' hC
  obtain ⟨m', en⟩ := hC.ln
  obtain ⟨kd, ed⟩ := hC.d
  have S₅ : St X C m₁ (upd H₂ D (.list ys)) s' := S'.put (ao := .list ys) ed ⟨kd, rfl⟩ hC.d0 hC.dL
  show wpAny _ _ (assign (.Name y py) env (.ref D)) _ _ _
  refine wpAny_assign_Name (wpAny_storeName_local hl (hL ▸ S₅.fr.ns) (fun h₂ hn₂ hs₂ => ?_) (by rw [hk]; rfl))
  have S₆ : St X C (setm m₁ y (.ref D)) (upd H₂ D (.list ys)) { s' with heap := h₂, toks := s'.toks + 1 } := S₅.loc (hL ▸ hn₂) (hL ▸ hs₂)
  refine ⟨m', en.sameBut hs₂ (hL ▸ hC.lL), fun h₃ hs₃ => ?_⟩
  exact ⟨_, _, S₆.gone (by rw [upd_ne (Ne.symm hC.dl)]; exact hL') hC.lL hC.l0 hs₃, hF D hD⟩
end
end Mine
namespace Mine
open PySem.Calls PySem.Spec
section
variable {X : Fx} {n : Nat} {H : Hp} {name qual : Str} {params : Arguments} {body : List Stmt} {scope : Scope} {dV kV doc pm cdv ct oc : Value} {an od : Option Addr} {osl : Array (Option Value)} {f : Addr} {args : List Value} {Q : Value → Hp → Prop}
theorem spec_fn (names : List Str) (ho : X.K.lookup f = some ⟨oc, od, .func (fnOf name qual params body scope dV kV doc pm an cdv ct), osl⟩) (hcd : codeIn X.K cdv qual = true)
    (hbind : bindArgs (fnOf name qual params body scope dV kV doc pm an cdv ct) ⟨args, []⟩ = pure (names.zip args)) (hcell : scope.names.all (fun x => x.2 != .cell) = true) (hloc : names.all (fun x => scope.names.lookup x == some .local) = true)
    (h : ∀ C : Cx, W X n C (execs body (envOf qual scope C.L f cdv)) (fun y => (names.zip args).reverse.lookup y) H (fun fl _ H' => Q (retOf fl) H'))
    (hco : scope.isCoroutine = false := by rfl) (hgen : scope.isGenerator = false := by rfl) (hk : scope.kind = .function := by rfl) : Spec X (n + 1) (.ref f) args H Q :=
  spec_def ho hcd hbind (fun x hx => by simpa using (List.all_eq_true.mp hcell) x hx) (fun x hx => by
    have := (List.all_eq_true.mp hloc) x.1 (List.of_mem_zip hx).1
    simpa using this) h hco hgen hk
end
section
variable {X : Fx} {n : Nat} {C : Cx} {m : Loc} {H : Hp} {env : Env}
theorem w_range3 {i j k : Int} {t u v : Tok} {Q : Value → Loc → Hp → Prop} (hk : k ≠ 0) (hp : Builtin.divisionGoesByPylong (j - i) k = false) (q : ∀ r, H r = none → Q (.ref r) m (upd H r (.rng i j k))) : W X n C (call (.type "range") [.int i t, .int j u, .int k v]) m H Q := w_of fun E s a S =>
  call_range_3 hk ⟨m, _, S.push (ao := .rng i j k) ⟨_, _, _, rfl⟩, q _ (S.fresh (Nat.le_refl _))⟩ (.inl hp)
end
theorem noPylong {x y : Int} (h : y.natAbs < 2 ^ 9000) : Builtin.divisionGoesByPylong x y = false := by
  have hl : ∀ n : Int, n.natAbs < 2 ^ 9000 → (if n == 0 then 0 else n.natAbs.log2 / 30 + 1) ≤ 300 := fun n h => by
    split
    · omega
    · have h0 : n.natAbs ≠ 0 := by rename_i h; simpa using h
      have : n.natAbs.log2 < 9000 := (Nat.log2_lt h0).mpr h
      omega
  unfold Builtin.divisionGoesByPylong
  have := hl y h
  simp only [Bool.and_eq_false_iff, decide_eq_false_iff_not]
  left
  exact Nat.not_lt.mpr this
theorem noPylong_of {x y : Int} (h0 : 0 ≤ y) (h : y < 1000000000000) : Builtin.divisionGoesByPylong x y = false := noPylong (Nat.lt_trans (show y.natAbs < 1000000000000 by omega) (by decide +kernel))
end Mine
namespace Mine
open PySem.Calls PySem.Spec
section
variable {X : Fx} {n : Nat} {C : Cx} {m : Loc} {H : Hp} {env : Env}
/-! writing a field that stands already -/
theorem putL_len' {name : Str} {hsh : Int} {key v : Value} : ∀ {es : List DictEntry}, (es.find? (·.key.isStr name)).isSome = true → (putL name hsh key v es).length = es.length
  | [], h => by simp at h
  | a :: r, h => by
    rw [putL]
    split
    · rfl
    · rename_i hn
      have : (r.find? (·.key.isStr name)).isSome = true := by
        rw [List.find?_cons] at h
        cases q : a.key.isStr name with
        | true => exact absurd q hn
        | false => rw [q] at h; exact h
      rw [List.length_cons, putL_len' this, List.length_cons]
theorem w_reset {x Cl dx : Addr} {f : Loc} {k : Nat} {name : Str} {v v₀ : Value} {Q : Unit → Loc → Hp → Prop} (hx : H x = some (.inst Cl dx)) (hd : H dx = some (.ns f k)) (h₀ : f name = some v₀) (hk : k ≤ 900)
    (hs : findIn X.K (.ref Cl) "__setattr__" = some (some (.builtin "object.__setattr__"))) (hp : plainOver X.K Cl = true) (ht : takerIn X.K Cl name = some none) (hh : hasDictIn X.K Cl = true)
    (q : Q () m (upd H dx (.ns (setm f name v) k))) : W X n C (setAttr (.ref x) name v) m H Q := w_of fun E s a S => by
  obtain ⟨es, e, I, D, sk, hf, hl⟩ := inst_at S hx hd
  have X₀ := S.k
  refine set_plain X₀ I hs ?_
  refine osa_open (s := { s with toks := s.toks + 1 }) X₀ I hp ht fun b => ?_
  obtain ⟨cd, hc, hd'⟩ := any_some hh
  have D' : (s.heap.update dx (Obj.putName name (PyData.keyHash X.w.params name) (.str name (s.toks + 1)) v)).get? dx = some (dictOf (putL name (PyData.keyHash X.w.params name) (.str name (s.toks + 1)) v es) (putN name es e)) := by
    rw [Heap.get?_update_self _ D (by rw [putName_dict]; rfl), putName_dict]
  have hlen : (putL name (PyData.keyHash X.w.params name) (.str name (s.toks + 1)) v es).length = es.length := putL_len' (by
    have := hf name
    rw [nsFind_list, h₀] at this
    cases q : es.find? (·.key.isStr name) with
    | none => rw [q] at this; cases this
    | some _ => rfl)
  refine wpAny_bind (wpAny_pure (wpAny_bind (wpAny_bind (wpAny_loadPart I.at_ (wpAny_bind (looks_clsIn X₀ hc _ _ _ { s with toks := s.toks + 1 } (fun _ _ e => e) ?_))))))
  rw [hd']
  refine wpAny_pure (a := some dx) (wpAny_bind (wpAny_pure (wpAny_bind ?_)))
  unfold nsSet
  refine wpAny_bind (wpAny_bind (wpAny_askSetting (wpAny_pure (wpAny_bind (wpAny_mkText (wpAny_bind (wpAny_loadPart D ?_)))))))
  have c : (!es.toArray.any (·.key.isStr name) && es.toArray.any (·.refKey)) = false := by
    have : es.toArray.any (·.refKey) = false := by
      rw [Array.any_eq_false']; intro e he; obtain ⟨n, t, h⟩ := sk e he; simp [DictEntry.refKey, h]
    rw [this, Bool.and_false]
  dsimp only
  rw [aRefKeyMayBeTheName_at, c]
  refine wpAny_updatePart D ?_
  refine wpAny_bind (wpAny_lookBehind D' (pastItsLine_dict (by rw [List.size_toArray, sizeLine_eq]; omega)) ?_)
  refine wpAny_pure ?_
  refine ⟨m, _, S.turn (ao' := .ns (setm f name v) k) hd (Heap.SameBut.update ..).extBut D' ⟨_, _, rfl, putL_strKeys sk, fun y => ?_, by omega⟩, q⟩
  rw [nsFind_list, putL_find' (fun e he => sk e (by simpa using he)), ← nsFind_list, hf]; rfl
/-! branches -/
theorem if_dec {p : Prop} [Decidable p] {A B : Prop} (h1 : p → A) (h2 : ¬p → B) : if decide p = true then A else B := by
  by_cases h : p
  · rw [if_pos (by simpa using h)]; exact h1 h
  · rw [if_neg (by simpa using h)]; exact h2 h
theorem if_beq {a b : Int} {A B : Prop} (h1 : a = b → A) (h2 : a ≠ b → B) : if (a == b) = true then A else B := by
  by_cases h : a = b
  · rw [if_pos (by simpa using h)]; exact h1 h
  · rw [if_neg (by simpa using h)]; exact h2 h
theorem if_bne {a b : Int} {A B : Prop} (h1 : a ≠ b → A) (h2 : a = b → B) : if (a != b) = true then A else B := by
  by_cases h : a = b
  · rw [if_neg (by simpa using h)]; exact h2 h
  · rw [if_pos (by simpa using h)]; exact h1 h
theorem if_true {A B : Prop} (h : A) : if true = true then A else B := by rw [if_pos rfl]; exact h
theorem if_false {A B : Prop} (h : B) : if false = true then A else B := by rw [if_neg (by decide)]; exact h
end
/-! the memory -/
structure Mm where
  a : Addr
  d : Addr
  w : Addr
def Words (g : Int → Option Value) (M : Int → Int) : Prop := (∀ k, g k = none → M k = 0) ∧ ∀ k v, g k = some v → (0 ≤ k ∧ k < 2048) ∧ ∃ t, v = .int (M k) t
def memF (w : Addr) (t : Tok) : Loc := setm (setm (fun _ => none) "size" (.int 8192 t)) "words" (.ref w)
structure MS (CM : Addr) (y : Mm) (R : Hp) (M : Int → Int) (H : Hp) : Prop where
  a : H y.a = some (.inst CM y.d)
  d : ∃ t, H y.d = some (.ns (memF y.w t) 2)
  w : ∃ g, H y.w = some (.map g) ∧ Words g M
  r : ∀ b ao, R b = some ao → H b = some ao ∧ b ≠ y.a ∧ b ≠ y.d ∧ b ≠ y.w
def wr (M : Int → Int) (x v : Int) : Int → Int := fun k => if k = x / 4 then v % 4294967296 else M k
section
variable {CM : Addr} {y : Mm} {R R' : Hp} {M : Int → Int} {H : Hp}
theorem MS.get (S : MS CM y R M H) {b : Addr} {ao : AO} (h : R b = some ao) : H b = some ao := (S.r b ao h).1
theorem MS.less (S : MS CM y R M H) (h : ∀ b ao, R' b = some ao → R b = some ao) : MS CM y R' M H := ⟨S.a, S.d, S.w, fun b ao e => S.r b ao (h b ao e)⟩
/-- an object beside the memory turns or is new -/
theorem MS.upd (S : MS CM y R M H) {b : Addr} {ao : AO} (h : H b = none ∨ ∃ ao₀, R b = some ao₀) : MS CM y (upd R b ao) M (upd H b ao) := by
  have hb : b ≠ y.a ∧ b ≠ y.d ∧ b ≠ y.w := by
    rcases h with h | ⟨ao₀, h⟩
    · refine ⟨fun e => ?_, fun e => ?_, fun e => ?_⟩
      · subst e; rw [S.a] at h; cases h
      · subst e; obtain ⟨t, e⟩ := S.d; rw [e] at h; cases h
      · subst e; obtain ⟨g, e, _⟩ := S.w; rw [e] at h; cases h
    · exact (S.r b ao₀ h).2
  refine ⟨by rw [upd_ne (Ne.symm hb.1)]; exact S.a, ?_, ?_, fun c co e => ?_⟩
  · obtain ⟨t, e⟩ := S.d; exact ⟨t, by rw [upd_ne (Ne.symm hb.2.1)]; exact e⟩
  · obtain ⟨g, e, w⟩ := S.w; exact ⟨g, by rw [upd_ne (Ne.symm hb.2.2)]; exact e, w⟩
  · by_cases q : c = b
    · subst q; rw [upd_self] at e ⊢; exact ⟨e, hb⟩
    · rw [upd_ne q] at e ⊢; exact S.r c co e
theorem MS.new (S : MS CM y R M H) {b : Addr} {ao : AO} (h : H b = none) : MS CM y (Mine.upd R b ao) M (Mine.upd H b ao) := S.upd (.inl h)
theorem MS.set (S : MS CM y R M H) {b : Addr} {ao ao₀ : AO} (h : R b = some ao₀) : MS CM y (Mine.upd R b ao) M (Mine.upd H b ao) := S.upd (.inr ⟨_, h⟩)
theorem MS.add (S : MS CM y R M H) {b : Addr} {ao : AO} (h : H b = none) : MS CM y R M (Mine.upd H b ao) := (S.new (ao := ao) h).less fun c co e => by
  by_cases q : c = b
  · subst q; rw [S.get e] at h; cases h
  · rw [upd_ne q]; exact e
theorem MS.fresh (S : MS CM y R M H) {b : Addr} (h : H b = none) : R b = none := by
  cases q : R b with
  | none => rfl
  | some ao => rw [S.get q] at h; cases h
theorem MS.put (S : MS CM y R M H) {g : Int → Option Value} (hg : H y.w = some (.map g)) {x v : Int} (h0 : 0 ≤ x) (h1 : x < 8192) (t : Tok) (hw : Words g M) (hwa : y.w ≠ y.a) (hwd : y.w ≠ y.d) :
    MS CM y R (wr M x v) (Mine.upd H y.w (.map fun k => if k = x / 4 then some (.int (v % 4294967296) t) else g k)) := by
  refine ⟨by rw [upd_ne (Ne.symm hwa)]; exact S.a, ?_, ⟨_, upd_self _ _ _, fun k e => ?_, fun k u e => ?_⟩, fun b ao e => ?_⟩
  · obtain ⟨t, e⟩ := S.d; exact ⟨t, by rw [upd_ne (Ne.symm hwd)]; exact e⟩
  · by_cases q : k = x / 4
    · subst q; simp at e
    · simp only [if_neg q] at e; unfold wr; rw [if_neg q]; exact hw.1 k e
  · by_cases q : k = x / 4
    · subst q; simp only [if_true] at e; cases e; refine ⟨by omega, t, ?_⟩; unfold wr; rw [if_pos rfl]
    · simp only [if_neg q] at e; unfold wr; rw [if_neg q]; exact hw.2 k u e
  · obtain ⟨e1, e2, e3, e4⟩ := S.r b ao e; exact ⟨by rw [upd_ne e4]; exact e1, e2, e3, e4⟩
theorem MS.wa (S : MS CM y R M H) : y.w ≠ y.a := fun e => by obtain ⟨g, h, _⟩ := S.w; rw [e, S.a] at h; cases h
theorem MS.wd (S : MS CM y R M H) : y.w ≠ y.d := fun e => by obtain ⟨g, h, _⟩ := S.w; obtain ⟨t, h'⟩ := S.d; rw [e, h'] at h; cases h
end
end Mine
namespace Mine
open PySem.Calls PySem.Spec
structure GetOk (K : Frag) (C : Addr) (name : Str) : Prop where
  g : plainGet K C name = true
  h : hasDictIn K C = true
  a : findIn K (.ref C) name = some none
structure MethOk (K : Frag) (C : Addr) (name : Str) (f : Addr) : Prop where
  g : plainGet K C name = true
  m : findIn K (.ref C) name = some (some (.ref f))
  t : isFn K (.ref f) = true
  k : keepIn K (.ref f) = true
structure SetOk (K : Frag) (C : Addr) (name : Str) : Prop where
  s : findIn K (.ref C) "__setattr__" = some (some (.builtin "object.__setattr__"))
  p : plainOver K C = true
  t : takerIn K C name = some none
  h : hasDictIn K C = true
structure FnOk (K : Frag) (name : Str) (f : Addr) : Prop where
  n : nsIn K mainGlobals name = some (some (.ref f))
  k : keepIn K (.ref f) = true
structure BuiltOk (K : Frag) (name : Str) (v : Value) : Prop where
  n : nsIn K mainGlobals name = some none
  b : bootBuiltins name = some v
section
variable {X : Fx} {n : Nat} {C : Cx} {m : Loc} {H : Hp} {env : Env}
theorem w_field {x Cl dx : Addr} {f : Loc} {k : Nat} {name : Str} {v : Value} {ex : Bool} {Q : Value → Loc → Hp → Prop} (o : GetOk X.K Cl name) (hx : H x = some (.inst Cl dx)) (hd : H dx = some (.ns f k)) (hv : f name = some v)
    (hn : handedIn v = true) (q : Q v m H) : W X n C (getAttr (.ref x) name ex) m H Q := w_get hx hd hv o.g o.h o.a hn q
theorem w_meth {x Cl dx g : Addr} {f : Loc} {k : Nat} {name : Str} {pl : Sem Bool} {Q : Value × List Value → Loc → Hp → Prop} (o : MethOk X.K Cl name g) (hx : H x = some (.inst Cl dx)) (hd : H dx = some (.ns f k)) (hv : f name = none)
    (q : Q (.ref g, [.ref x]) m H) : W X n C (getMethod (.ref x) name pl) m H Q := w_method hx hd hv o.g o.m o.t q
theorem w_bi {x : Str} {pos : Pos} {v : Value} {Q : Value → Loc → Hp → Prop} (o : BuiltOk X.K x v) (q : Q v m H)
    (hx : x ≠ "__name__" := by decide) (hG : env.globals = mainGlobals := by kernel_rfl) (hB : env.builtins = builtinsNs := by kernel_rfl) (hk : env.scope.kind = .function := by kernel_rfl) (hl : env.kindOf x = some .globalImplicit := by kernel_rfl) (hd : (x == ("__debug__" : Str)) = false := by kernel_rfl) :
    W X n C (eval (.Name x pos) env) m H Q := w_builtin o.n o.b q hx hG hB hk hl hd
theorem g_execs {b : List Stmt} {Q : Flow → Loc → Hp → Prop} (h : W X n C (execs b env) m H Q) : W X n C (execs b env) m H Q := h
theorem g_exec {b : Stmt} {Q : Flow → Loc → Hp → Prop} (h : W X n C (exec b env) m H Q) : W X n C (exec b env) m H Q := h
theorem g_assign {x : Expr} {pos : Pos} {v : Expr} {Q : Flow → Loc → Hp → Prop} (h : W X n C (exec (.Assign [x] v pos) env) m H Q) : W X n C (exec (.Assign [x] v pos) env) m H Q := h
theorem g_name {x : Str} {pos : Pos} {Q : Value → Loc → Hp → Prop} (h : W X n C (eval (.Name x pos) env) m H Q) : W X n C (eval (.Name x pos) env) m H Q := h
theorem g_call {f : Expr} {as : List Expr} {kw : List Keyword} {pos : Pos} {Q : Value → Loc → Hp → Prop} (h : W X n C (eval (.Call f as kw pos) env) m H Q) : W X n C (eval (.Call f as kw pos) env) m H Q := h
theorem g_eval {e : Expr} {Q : Value → Loc → Hp → Prop} (h : W X n C (eval e env) m H Q) : W X n C (eval e env) m H Q := h
theorem g_isTrue {e : Expr} {wh : Sem Value} {Q : Bool → Loc → Hp → Prop} (h : W X n C (isTrue e env wh) m H Q) : W X n C (isTrue e env wh) m H Q := h
theorem g_load {x : Str} {Q : Value → Loc → Hp → Prop} (h : W X n C (loadName env x) m H Q) : W X n C (loadName env x) m H Q := h
theorem g_store {x : Str} {v : Value} {Q : Unit → Loc → Hp → Prop} (h : W X n C (storeName env x v) m H Q) : W X n C (storeName env x v) m H Q := h
theorem g_bin {op : Operator} {a b : Value} {Q : Value → Loc → Hp → Prop} (h : W X n C (binaryOp op a b) m H Q) : W X n C (binaryOp op a b) m H Q := h
theorem g_cmp {op : CmpOp} {a b : Value} {Q : Value → Loc → Hp → Prop} (h : W X n C (compareOp op a b) m H Q) : W X n C (compareOp op a b) m H Q := h
theorem g_spl {as : List (Bool × Sem Value)} {Q : List Value → Loc → Hp → Prop} (h : W X n C (spliced as) m H Q) : W X n C (spliced as) m H Q := h
end
def lnum (s : Int) : Int := if s < 32 then 0 else if s < 64 then 1 else if s < 128 then 2 else 3
end Mine
namespace Mine
open PySem.Calls PySem.Spec
structure Yd where
  mm : Mm
  hp : Addr
  hd : Addr
def heapF (mem : Addr) (st lim : Int) (fl : Addr) (t1 t2 : Tok) : Loc := setm (setm (setm (setm (fun _ => none) "memory" (.ref mem)) "start" (.int st t1)) "limit" (.int lim t2)) "free" (.ref fl)
theorem heapF_free (mem : Addr) (st lim : Int) (fl fl' : Addr) (t1 t2 : Tok) : setm (heapF mem st lim fl t1 t2) "free" (.ref fl') = heapF mem st lim fl' t1 t2 := by
  funext x; unfold heapF setm; split <;> rfl
def Ints (vs : List Value) (F : List Int) : Prop := vs.length = F.length ∧ ∀ (i : Nat) (k : Int), F[i]? = some k → ∃ t, vs[i]? = some (.int k t)
theorem Ints.set {vs : List Value} {F : List Int} (h : Ints vs F) (i : Nat) (k : Int) (t : Tok) : Ints (vs.set i (.int k t)) (F.set i k) := by
  refine ⟨by rw [List.length_set, List.length_set]; exact h.1, fun j x e => ?_⟩
  rw [List.getElem?_set] at e ⊢
  split at e
  · rename_i q
    subst q
    split at e
    · cases e; rename_i hl; exact ⟨t, by rw [if_pos rfl, if_pos (by rw [h.1]; exact hl)]⟩
    · cases e
  · rename_i q; rw [if_neg q]; exact h.2 j x e
structure HS (CM CH : Addr) (y : Yd) (R : Hp) (M : Int → Int) (F : List Int) (st lim : Int) (H : Hp) : Prop where
  m : MS CM y.mm R M H
  hp : H y.hp = some (.inst CH y.hd)
  hd : ∃ t1 t2 fl vs, H y.hd = some (.ns (heapF y.mm.a st lim fl t1 t2) 4) ∧ H fl = some (.list vs) ∧ Ints vs F ∧ R fl = none
  rp : R y.hp = none
  rd : R y.hd = none
  cc : CM ≠ CH
section
variable {CM CH : Addr} {y : Yd} {R R' : Hp} {M : Int → Int} {F : List Int} {st lim : Int} {H H' : Hp}
theorem AOne {H : Hp} {a b : Addr} {x z : AO} (h : H a = some x) (h' : H b = some z) (n : x ≠ z) : a ≠ b := fun e => n (by subst e; rw [h] at h'; cases h'; rfl)
theorem HS.get (S : HS CM CH y R M F st lim H) {b : Addr} {ao : AO} (h : R b = some ao) : H b = some ao := S.m.get h
theorem HS.less (S : HS CM CH y R M F st lim H) (h : ∀ b ao, R' b = some ao → R b = some ao) : HS CM CH y R' M F st lim H := by
  have n : ∀ b, R b = none → R' b = none := fun b e => by
    cases q : R' b with
    | none => rfl
    | some ao => rw [h b ao q] at e; cases e
  obtain ⟨t1, t2, fl, vs, h1, h2, h3, h4⟩ := S.hd
  exact ⟨S.m.less h, S.hp, ⟨t1, t2, fl, vs, h1, h2, h3, n _ h4⟩, n _ S.rp, n _ S.rd, S.cc⟩
/-- the memory's view with the heap's own objects beside it -/
theorem HS.view (S : HS CM CH y R M F st lim H) {fl : Addr} {vs : List Value} (hf : H fl = some (.list vs)) : MS CM y.mm (fun b => if b = y.hp ∨ b = y.hd ∨ b = fl then H b else R b) M H := by
  refine ⟨S.m.a, S.m.d, S.m.w, fun b ao e => ?_⟩
  obtain ⟨t1, t2, fl', vs', h1, h2, h3, h4⟩ := S.hd
  obtain ⟨tm, hm⟩ := S.m.d
  obtain ⟨g, hg, _⟩ := S.m.w
  have q1 := S.hp
  split at e
  · rename_i hb
    refine ⟨e, ?_⟩
    rcases hb with rfl | rfl | rfl
    · exact ⟨AOne q1 S.m.a (by intro e; injection e with e1 e2; exact S.cc e1.symm), AOne q1 hm (by intro e; cases e), AOne q1 hg (by intro e; cases e)⟩
    · exact ⟨AOne h1 S.m.a (by intro e; cases e), AOne h1 hm (by intro e; injection e with _ e; cases e), AOne h1 hg (by intro e; cases e)⟩
    · exact ⟨AOne hf S.m.a (by intro e; cases e), AOne hf hm (by intro e; cases e), AOne hf hg (by intro e; cases e)⟩
  · exact S.m.r b ao e
theorem HS.of_view (S : HS CM CH y R M F st lim H) {fl : Addr} {vs : List Value} {t1 t2 : Tok} {M' : Int → Int} (h1 : H y.hd = some (.ns (heapF y.mm.a st lim fl t1 t2) 4)) (h2 : H fl = some (.list vs)) (h3 : Ints vs F) (h4 : R fl = none)
    (S' : MS CM y.mm (fun b => if b = y.hp ∨ b = y.hd ∨ b = fl then H b else R b) M' H') : HS CM CH y R M' F st lim H' ∧ H' y.hd = some (.ns (heapF y.mm.a st lim fl t1 t2) 4) ∧ H' fl = some (.list vs) := by
  have a1 : H' y.hp = some (.inst CH y.hd) := S'.get (by rw [if_pos (.inl rfl)]; exact S.hp)
  have a2 : H' y.hd = some (.ns (heapF y.mm.a st lim fl t1 t2) 4) := S'.get (by rw [if_pos (.inr (.inl rfl))]; exact h1)
  have a3 : H' fl = some (.list vs) := S'.get (by rw [if_pos (.inr (.inr rfl))]; exact h2)
  refine ⟨⟨S'.less fun b ao e => ?_, a1, ⟨t1, t2, fl, vs, a2, a3, h3, h4⟩, S.rp, S.rd, S.cc⟩, a2, a3⟩
  rw [if_neg]
  · exact e
  · rintro (rfl | rfl | rfl)
    · rw [S.rp] at e; cases e
    · rw [S.rd] at e; cases e
    · rw [h4] at e; cases e
/-- an object beside turns or is new -/
theorem HS.upd (S : HS CM CH y R M F st lim H) {b : Addr} {ao : AO} (h : H b = none ∨ ∃ ao₀, R b = some ao₀) : HS CM CH y (Mine.upd R b ao) M F st lim (Mine.upd H b ao) := by
  obtain ⟨t1, t2, fl, vs, h1, h2, h3, h4⟩ := S.hd
  have hb : b ≠ y.hp ∧ b ≠ y.hd ∧ b ≠ fl := by
    rcases h with h | ⟨ao₀, h⟩
    · refine ⟨fun e => ?_, fun e => ?_, fun e => ?_⟩ <;> subst e
      · rw [S.hp] at h; cases h
      · rw [h1] at h; cases h
      · rw [h2] at h; cases h
    · refine ⟨fun e => ?_, fun e => ?_, fun e => ?_⟩ <;> subst e
      · rw [S.rp] at h; cases h
      · rw [S.rd] at h; cases h
      · rw [h4] at h; cases h
  exact ⟨S.m.upd h, by rw [upd_ne (Ne.symm hb.1)]; exact S.hp, ⟨t1, t2, fl, vs, by rw [upd_ne (Ne.symm hb.2.1)]; exact h1, by rw [upd_ne (Ne.symm hb.2.2)]; exact h2, h3, by rw [upd_ne (Ne.symm hb.2.2)]; exact h4⟩,
    by rw [upd_ne (Ne.symm hb.1)]; exact S.rp, by rw [upd_ne (Ne.symm hb.2.1)]; exact S.rd, S.cc⟩
theorem HS.new (S : HS CM CH y R M F st lim H) {b : Addr} {ao : AO} (h : H b = none) : HS CM CH y (Mine.upd R b ao) M F st lim (Mine.upd H b ao) := S.upd (.inl h)
theorem HS.set (S : HS CM CH y R M F st lim H) {b : Addr} {ao ao₀ : AO} (h : R b = some ao₀) : HS CM CH y (Mine.upd R b ao) M F st lim (Mine.upd H b ao) := S.upd (.inr ⟨_, h⟩)
theorem HS.fresh (S : HS CM CH y R M F st lim H) {b : Addr} (h : H b = none) : R b = none := S.m.fresh h
theorem HS.add (S : HS CM CH y R M F st lim H) {b : Addr} {ao : AO} (h : H b = none) : HS CM CH y R M F st lim (Mine.upd H b ao) := (S.new (ao := ao) h).less fun c co e => by
  by_cases q : c = b
  · subst q; rw [S.get e] at h; cases h
  · rw [upd_ne q]; exact e
/-- an object goes: a list that a loop walks -/
theorem MS.del (S : MS CM y.mm R M H) {b : Addr} (h : ∃ ao, R b = some ao) : MS CM y.mm (Mine.del R b) M (Mine.del H b) := by
  obtain ⟨ao, h⟩ := h
  have hb := (S.r b ao h).2
  refine ⟨by rw [del_ne (Ne.symm hb.1)]; exact S.a, ?_, ?_, fun c co e => ?_⟩
  · obtain ⟨t, e⟩ := S.d; exact ⟨t, by rw [del_ne (Ne.symm hb.2.1)]; exact e⟩
  · obtain ⟨g, e, w⟩ := S.w; exact ⟨g, by rw [del_ne (Ne.symm hb.2.2)]; exact e, w⟩
  · obtain ⟨e1, e2⟩ := del_of e
    obtain ⟨z1, z2⟩ := S.r c co e1
    exact ⟨by rw [del_ne e2]; exact z1, z2⟩
theorem HS.del (S : HS CM CH y R M F st lim H) {b : Addr} {ao : AO} (h : R b = some ao) : HS CM CH y (Mine.del R b) M F st lim (Mine.del H b) := by
  obtain ⟨t1, t2, fl, vs, h1, h2, h3, h4⟩ := S.hd
  have hb : b ≠ y.hp ∧ b ≠ y.hd ∧ b ≠ fl := by
    refine ⟨fun e => ?_, fun e => ?_, fun e => ?_⟩ <;> subst e
    · rw [S.rp] at h; cases h
    · rw [S.rd] at h; cases h
    · rw [h4] at h; cases h
  exact ⟨S.m.del ⟨_, h⟩, by rw [del_ne (Ne.symm hb.1)]; exact S.hp, ⟨t1, t2, fl, vs, by rw [del_ne (Ne.symm hb.2.1)]; exact h1, by rw [del_ne (Ne.symm hb.2.2)]; exact h2, h3, by rw [del_ne (Ne.symm hb.2.2)]; exact h4⟩,
    by rw [del_ne (Ne.symm hb.1)]; exact S.rp, by rw [del_ne (Ne.symm hb.2.1)]; exact S.rd, S.cc⟩
/-- the free lists' heads turn -/
theorem HS.free (S : HS CM CH y R M F st lim H) {fl : Addr} {vs vs' : List Value} {F' : List Int} {t1 t2 : Tok} (h1 : H y.hd = some (.ns (heapF y.mm.a st lim fl t1 t2) 4)) (h2 : H fl = some (.list vs)) (hR : R fl = none) (h3 : Ints vs' F') :
    HS CM CH y R M F' st lim (Mine.upd H fl (.list vs')) := by
  obtain ⟨tm, hm⟩ := S.m.d
  obtain ⟨g, hg, hw⟩ := S.m.w
  refine ⟨⟨?_, ⟨tm, ?_⟩, ⟨g, ?_, hw⟩, fun b ao e => ?_⟩, ?_, ⟨t1, t2, fl, vs', ?_, upd_self _ _ _, h3, hR⟩, S.rp, S.rd, S.cc⟩
  · rw [upd_ne (AOne S.m.a h2 (by intro e; cases e))]; exact S.m.a
  · rw [upd_ne (AOne hm h2 (by intro e; cases e))]; exact hm
  · rw [upd_ne (AOne hg h2 (by intro e; cases e))]; exact hg
  · obtain ⟨z1, z2⟩ := S.m.r b ao e
    exact ⟨by rw [upd_ne (fun q => by subst q; rw [hR] at e; cases e)]; exact z1, z2⟩
  · rw [upd_ne (AOne S.hp h2 (by intro e; cases e))]; exact S.hp
  · rw [upd_ne (AOne h1 h2 (by intro e; cases e))]; exact h1
/-- a new list of the free lists' heads -/
theorem HS.refree (S : HS CM CH y R M F st lim H) {fl fl' : Addr} {vs' : List Value} {F' : List Int} {t1 t2 : Tok} (h1 : H y.hd = some (.ns (heapF y.mm.a st lim fl t1 t2) 4)) (h2 : H fl' = some (.list vs')) (hR : R fl' = none) (h3 : Ints vs' F') :
    HS CM CH y R M F' st lim (Mine.upd H y.hd (.ns (setm (heapF y.mm.a st lim fl t1 t2) "free" (.ref fl')) 4)) := by
  obtain ⟨tm, hm⟩ := S.m.d
  obtain ⟨g, hg, hw⟩ := S.m.w
  rw [heapF_free]
  refine ⟨⟨?_, ⟨tm, ?_⟩, ⟨g, ?_, hw⟩, fun b ao e => ?_⟩, ?_, ⟨t1, t2, fl', vs', upd_self _ _ _, ?_, h3, hR⟩, S.rp, S.rd, S.cc⟩
  · rw [upd_ne (AOne S.m.a h1 (by intro e; cases e))]; exact S.m.a
  · rw [upd_ne (AOne hm h1 (by intro e; injection e with _ e; cases e))]; exact hm
  · rw [upd_ne (AOne hg h1 (by intro e; cases e))]; exact hg
  · obtain ⟨z1, z2⟩ := S.m.r b ao e
    exact ⟨by rw [upd_ne (fun q => by subst q; rw [S.rd] at e; cases e)]; exact z1, z2⟩
  · rw [upd_ne (AOne S.hp h1 (by intro e; cases e))]; exact S.hp
  · rw [upd_ne (AOne h2 h1 (by intro e; cases e))]; exact h2
end
theorem lnum_bd (s : Int) : 0 ≤ lnum s ∧ lnum s < 4 := by unfold lnum; split <;> (try split) <;> (try split) <;> omega
def bsz (r : Int) : Int := (r + 23) / 16 * 16
def szAt (M : Int → Int) (x : Int) : Int := if M (x / 4) % 2 = 1 then M (x / 4) - 1 else bsz (M (M (x / 4) / 4))
end Mine
namespace Mine
/-! free lists, in plain Lean -/
def Chain (M : Int → Int) : Int → List Int → Prop
  | h, [] => h = 0
  | h, x :: r => h = x ∧ Chain M (M ((x + 4) / 4)) r
def OkA (x : Int) : Prop := 1024 ≤ x ∧ x + 16 ≤ 8192 ∧ x % 16 = 0
theorem OkA.ne {x z : Int} (a : OkA x) (b : OkA z) (h : x ≠ z) : (x + 4) / 4 ≠ (z + 4) / 4 := by obtain ⟨_, _, _⟩ := a; obtain ⟨_, _, _⟩ := b; omega
theorem OkA.ne' {x z : Int} (a : OkA x) (b : OkA z) : (x + 4) / 4 ≠ z / 4 := by obtain ⟨_, _, _⟩ := a; obtain ⟨_, _, _⟩ := b; omega
theorem OkA.ne0 {x : Int} (a : OkA x) : x ≠ 0 := by obtain ⟨_, _, _⟩ := a; omega
theorem Chain.congr {M M' : Int → Int} : ∀ {h : Int} {L : List Int}, (∀ x ∈ L, M' ((x + 4) / 4) = M ((x + 4) / 4)) → Chain M h L → Chain M' h L
  | _, [], _, c => c
  | _, x :: r, h, c => ⟨c.1, by rw [h x (.head _)]; exact Chain.congr (fun z hz => h z (.tail _ hz)) c.2⟩
theorem Chain.cut {M M' : Int → Int} {p x : Int} {rest : List Int} : ∀ {pre : List Int} {h : Int}, Chain M h (pre ++ p :: x :: rest) → M' ((p + 4) / 4) = M ((x + 4) / 4) → (∀ z ∈ pre, M' ((z + 4) / 4) = M ((z + 4) / 4)) → (∀ z ∈ rest, M' ((z + 4) / 4) = M ((z + 4) / 4)) →
    Chain M' h (pre ++ p :: rest)
  | [], _, c, hp, _, hr => ⟨c.1, by rw [hp]; exact Chain.congr hr c.2.2⟩
  | a :: pre, _, c, hp, hq, hr => ⟨c.1, by rw [hq a (.head _)]; exact Chain.cut (pre := pre) c.2 hp (fun z hz => hq z (.tail _ hz)) hr⟩
theorem Chain.head {M : Int → Int} {h : Int} {L : List Int} (c : Chain M h L) : h = 0 ∧ L = [] ∨ ∃ r, L = h :: r ∧ Chain M (M ((h + 4) / 4)) r := by
  cases L with
  | nil => exact .inl ⟨c, rfl⟩
  | cons x r => obtain ⟨e, c⟩ := c; subst e; exact .inr ⟨r, rfl, c⟩
structure FL (M : Int → Int) (F : List Int) (Ls : Nat → List Int) : Prop where
  len : F.length = 4
  ch : ∀ i, i < 4 → Chain M (F.getD i 0) (Ls i)
  ok : ∀ i, i < 4 → ∀ x ∈ Ls i, OkA x ∧ M (x / 4) % 2 = 1
  nd : ∀ i, i < 4 → (Ls i).Nodup
  dj : ∀ i j x, i < 4 → j < 4 → x ∈ Ls i → x ∈ Ls j → i = j
def lset (Ls : Nat → List Int) (i : Nat) (L : List Int) : Nat → List Int := fun j => if j = i then L else Ls j
theorem lset_self (Ls : Nat → List Int) (i : Nat) (L : List Int) : lset Ls i L i = L := if_pos rfl
theorem lset_ne {Ls : Nat → List Int} {i j : Nat} {L : List Int} (h : j ≠ i) : lset Ls i L j = Ls j := if_neg h
theorem getD_set_self {F : List Int} {i : Nat} {x : Int} (h : i < F.length) : (F.set i x).getD i 0 = x := by simp [List.getD_eq_getElem?_getD, h]
theorem getD_set_ne {F : List Int} {i j : Nat} {x : Int} (h : j ≠ i) : (F.set i x).getD j 0 = F.getD j 0 := by
  simp only [List.getD_eq_getElem?_getD]; rw [List.getElem?_set_ne (Ne.symm h)]
theorem erase_mid {x : Int} {pre rest : List Int} (nd : (pre ++ x :: rest).Nodup) : (pre ++ x :: rest).erase x = pre ++ rest := by
  have h : x ∉ pre := by
    rw [List.nodup_append] at nd
    intro hx; exact nd.2.2 x hx x (.head _) rfl
  rw [List.erase_append_right _ h, List.erase_cons_head]
/-- what take_free leaves when it has found -/
structure Took (M : Int → Int) (F : List Int) (Ls : Nat → List Int) (i : Nat) (x : Int) (M' : Int → Int) (F' : List Int) : Prop where
  fl : FL M' F' (lset Ls i ((Ls i).erase x))
  same : ∀ k, (∀ p ∈ Ls i, p ≠ x → k ≠ (p + 4) / 4) → M' k = M k
theorem FL.less {M M' : Int → Int} {F F' : List Int} {Ls Ls' : Nat → List Int} (f : FL M F Ls) (hl : F'.length = 4) (hc : ∀ i, i < 4 → Chain M' (F'.getD i 0) (Ls' i)) (hs : ∀ i, i < 4 → (Ls' i).Sublist (Ls i)) (ho : ∀ i, i < 4 → ∀ x ∈ Ls' i, M' (x / 4) = M (x / 4)) : FL M' F' Ls' :=
  ⟨hl, hc, fun i hi x hx => by rw [ho i hi x hx]; exact f.ok i hi x ((hs i hi).subset hx), fun i hi => (hs i hi).nodup (f.nd i hi), fun i j x hi hj h1 h2 => f.dj i j x hi hj ((hs i hi).subset h1) ((hs j hj).subset h2)⟩
theorem FL.took_head {M : Int → Int} {F : List Int} {Ls : Nat → List Int} (f : FL M F Ls) {i : Nat} (hi : i < 4) {x : Int} {rest : List Int} (e : Ls i = x :: rest) : Took M F Ls i x M (F.set i (M ((x + 4) / 4))) := by
  have er : (Ls i).erase x = rest := by rw [e, List.erase_cons_head]
  refine ⟨f.less (by rw [List.length_set]; exact f.len) (fun j hj => ?_) (fun j hj => ?_) fun _ _ _ _ => rfl, fun _ _ => rfl⟩
  · by_cases q : j = i
    · subst q; rw [lset_self, getD_set_self (by rw [f.len]; exact hj), er]
      have := f.ch j hj; rw [e] at this; exact this.2
    · rw [lset_ne q, getD_set_ne q]; exact f.ch j hj
  · by_cases q : j = i
    · subst q; rw [lset_self]; exact List.erase_sublist
    · rw [lset_ne q]; exact List.Sublist.refl _
theorem FL.took_mid {M : Int → Int} {F : List Int} {Ls : Nat → List Int} (f : FL M F Ls) {i : Nat} (hi : i < 4) {p x v : Int} {pre rest : List Int} (e : Ls i = pre ++ p :: x :: rest) (hv : v = M ((x + 4) / 4)) :
    Took M F Ls i x (wr M (p + 4) v) F := by
  have hnd := f.nd i hi
  have okx : ∀ z ∈ Ls i, OkA z := fun z hz => (f.ok i hi z hz).1
  have hp : OkA p := okx p (by rw [e]; simp)
  have e' : Ls i = (pre ++ [p]) ++ x :: rest := by rw [e]; simp
  have er : (Ls i).erase x = pre ++ p :: rest := by rw [e', erase_mid (by rw [← e']; exact hnd)]; simp
  have hv' : 0 ≤ v ∧ v < 4294967296 := by
    have c := f.ch i hi
    rw [e] at c
    have : ∀ {pre : List Int} {h : Int}, Chain M h (pre ++ p :: x :: rest) → Chain M (M ((x + 4) / 4)) rest := by
      intro pre
      induction pre with
      | nil => intro h c; exact c.2.2
      | cons a r ih => intro h c; exact ih c.2
    have c' := this c
    rw [← hv] at c'
    rcases c'.head with ⟨h, _⟩ | ⟨r, h, _⟩
    · omega
    · have := okx v (by rw [e, h]; simp)
      obtain ⟨_, _, _⟩ := this
      omega
  have hw : ∀ k, k ≠ (p + 4) / 4 → wr M (p + 4) v k = M k := fun k h => if_neg h
  have hwp : wr M (p + 4) v ((p + 4) / 4) = v := by unfold wr; rw [if_pos rfl]; omega
  have hd : ∀ z ∈ Ls i, z ≠ p → (z + 4) / 4 ≠ (p + 4) / 4 := fun z hz h => (okx z hz).ne hp h
  have nd2 : (pre ++ p :: x :: rest).Nodup := by rw [← e]; exact hnd
  have np : ∀ z, z ∈ pre ∨ z ∈ rest → z ≠ p := by
    intro z hz q
    subst q
    rw [List.nodup_append] at nd2
    rcases hz with hz | hz
    · exact nd2.2.2 z hz z (.head _) rfl
    · have := nd2.2.1; rw [List.nodup_cons] at this; exact this.1 (.tail _ hz)
  refine ⟨f.less f.len (fun j hj => ?_) (fun j hj => ?_) (fun j hj z hz => ?_), fun k hk => hw k (hk p (by rw [e]; simp) (fun q => ?_))⟩
  · by_cases q : j = i
    · subst q; rw [lset_self, er]
      have c := f.ch j hj; rw [e] at c
      exact c.cut (by rw [hwp, hv]) (fun z hz => hw _ (hd z (by rw [e]; simp [hz]) (np z (.inl hz)))) (fun z hz => hw _ (hd z (by rw [e]; simp [hz]) (np z (.inr hz))))
    · rw [lset_ne q]
      refine (f.ch j hj).congr fun z hz => hw _ ((f.ok j hj z hz).1.ne hp fun eq => q ?_)
      subst eq; exact f.dj j i z hj hi hz (by rw [e]; simp)
  · by_cases q : j = i
    · subst q; rw [lset_self]; exact List.erase_sublist
    · rw [lset_ne q]; exact List.Sublist.refl _
  · have hz' : z ∈ Ls j := by
      by_cases q : j = i
      · subst q; rw [lset_self] at hz; exact List.mem_of_mem_erase hz
      · rw [lset_ne q] at hz; exact hz
    exact hw _ (hp.ne' (f.ok j hj z hz').1).symm
  · subst q
    rw [List.nodup_append] at nd2
    have := nd2.2.1; rw [List.nodup_cons] at this; exact this.1 (.head _)
/-- a block is put into its list -/
theorem FL.put {M : Int → Int} {F : List Int} {Ls : Nat → List Int} (f : FL M F Ls) {i : Nat} (hi : i < 4) {x s : Int} (hx : OkA x) (hn : ∀ j, j < 4 → x ∉ Ls j) (hs : s % 2 = 0) (h0 : 0 ≤ s) (h1 : s < 8192) :
    FL (wr (wr M x (s + 1)) (x + 4) (F.getD i 0)) (F.set i x) (lset Ls i (x :: Ls i)) ∧ (∀ k, k ≠ x / 4 → k ≠ (x + 4) / 4 → wr (wr M x (s + 1)) (x + 4) (F.getD i 0) k = M k) ∧ wr (wr M x (s + 1)) (x + 4) (F.getD i 0) (x / 4) = s + 1 := by
  have hk : ∀ k, k ≠ x / 4 → k ≠ (x + 4) / 4 → wr (wr M x (s + 1)) (x + 4) (F.getD i 0) k = M k := fun k h1 h2 => by unfold wr; rw [if_neg h2, if_neg h1]
  have hw1 : wr (wr M x (s + 1)) (x + 4) (F.getD i 0) (x / 4) = s + 1 := by
    have := hx.ne' hx
    unfold wr; rw [if_neg (Ne.symm this), if_pos rfl]; omega
  have hd : 0 ≤ F.getD i 0 ∧ F.getD i 0 < 4294967296 := by
    have c := f.ch i hi
    rcases c.head with ⟨h, _⟩ | ⟨r, h, _⟩
    · omega
    · have := (f.ok i hi (F.getD i 0) (by rw [h]; simp)).1
      obtain ⟨_, _, _⟩ := this
      omega
  have hw2 : wr (wr M x (s + 1)) (x + 4) (F.getD i 0) ((x + 4) / 4) = F.getD i 0 := by unfold wr; rw [if_pos rfl]; omega
  have old : ∀ j, j < 4 → ∀ z ∈ Ls j, OkA z ∧ z ≠ x := fun j hj z hz => ⟨(f.ok j hj z hz).1, fun e => hn j hj (e ▸ hz)⟩
  have k1 : ∀ j, j < 4 → ∀ z ∈ Ls j, wr (wr M x (s + 1)) (x + 4) (F.getD i 0) ((z + 4) / 4) = M ((z + 4) / 4) := fun j hj z hz => hk _ ((old j hj z hz).1.ne' hx) ((old j hj z hz).1.ne hx (old j hj z hz).2)
  have k2 : ∀ j, j < 4 → ∀ z ∈ Ls j, wr (wr M x (s + 1)) (x + 4) (F.getD i 0) (z / 4) = M (z / 4) := fun j hj z hz => hk _ (fun e => by
    obtain ⟨⟨_, _, _⟩, h⟩ := old j hj z hz; obtain ⟨_, _, _⟩ := hx; omega) (hx.ne' (old j hj z hz).1).symm
  have ch : ∀ j, j < 4 → Chain (wr (wr M x (s + 1)) (x + 4) (F.getD i 0)) (F.getD j 0) (Ls j) := fun j hj => (f.ch j hj).congr (k1 j hj)
  refine ⟨⟨by rw [List.length_set]; exact f.len, fun j hj => ?_, fun j hj z hz => ?_, fun j hj => ?_, fun j l z hj hl h1 h2 => ?_⟩, hk, hw1⟩
  · by_cases q : j = i
    · subst q; rw [lset_self, getD_set_self (by rw [f.len]; exact hj)]
      exact ⟨rfl, by rw [hw2]; exact ch j hj⟩
    · rw [lset_ne q, getD_set_ne q]; exact ch j hj
  · have : z = x ∨ z ∈ Ls j := by
      by_cases q : j = i
      · subst q; rw [lset_self] at hz; exact List.mem_cons.mp hz
      · rw [lset_ne q] at hz; exact .inr hz
    rcases this with rfl | hz
    · exact ⟨hx, by rw [hw1]; omega⟩
    · rw [k2 j hj z hz]; exact f.ok j hj z hz
  · by_cases q : j = i
    · subst q; rw [lset_self, List.nodup_cons]; exact ⟨hn j hj, f.nd j hj⟩
    · rw [lset_ne q]; exact f.nd j hj
  · have c1 : ∀ j, j < 4 → z ∈ lset Ls i (x :: Ls i) j → (z = x ∧ j = i) ∨ (z ∈ Ls j ∧ z ≠ x) := fun j hj h => by
      by_cases q : j = i
      · subst q; rw [lset_self] at h
        rcases List.mem_cons.mp h with rfl | h
        · exact .inl ⟨rfl, rfl⟩
        · exact .inr ⟨h, (old j hj z h).2⟩
      · rw [lset_ne q] at h; exact .inr ⟨h, (old j hj z h).2⟩
    rcases c1 j hj h1 with ⟨a, b⟩ | ⟨a, b⟩ <;> rcases c1 l hl h2 with ⟨c, d⟩ | ⟨c, d⟩
    · rw [b, d]
    · exact absurd a d
    · exact absurd c b
    · exact f.dj j l z hj hl a c
end Mine
namespace Mine
open PySem.Calls PySem.Spec
theorem rs_up {a b c : Int} (hc : 0 < c) (h : a ≤ b) : Builtin.Range.rangeSize a b c = (b - a + c - 1) / c := by
  unfold Builtin.Range.rangeSize
  rw [if_pos hc]
  split
  · have : b - a + c - 1 = (b - a - 1) + c * 1 := by omega
    rw [this, Int.add_mul_ediv_left _ _ (by omega)]
  · have : b - a + c - 1 = c - 1 := by omega
    rw [this, Int.ediv_eq_zero_of_lt (by omega) (by omega)]
theorem rs_empty {a b c : Int} (hc : 0 < c) (h : b ≤ a) : Builtin.Range.rangeSize a b c = 0 := by
  unfold Builtin.Range.rangeSize; rw [if_pos hc, if_neg (by omega)]
theorem rs_one {a b : Int} (h : a ≤ b) : Builtin.Range.rangeSize a b 1 = b - a := by rw [rs_up (by decide) h]; omega
theorem rs_down {a b : Int} (h : b ≤ a) : Builtin.Range.rangeSize a b (-1) = a - b := by
  unfold Builtin.Range.rangeSize; rw [if_neg (by decide)]; split
  · rw [show (-(-1) : Int) = 1 from rfl, Int.ediv_one]; omega
  · omega
theorem rs_le {a b c : Int} (hc : 0 < c) : 0 ≤ Builtin.Range.rangeSize a b c ∧ (Builtin.Range.rangeSize a b c ≤ b - a ∨ Builtin.Range.rangeSize a b c = 0) := by
  refine ⟨rangeN _ _ _, ?_⟩
  by_cases h : a < b
  · left
    unfold Builtin.Range.rangeSize
    rw [if_pos hc, if_pos h]
    have : (b - a - 1) / c ≤ b - a - 1 := Int.ediv_le_self _ (by omega)
    omega
  · right; exact rs_empty hc (by omega)
theorem r_small {a b c : Int} (ha : -1000000 ≤ a) (ha' : a ≤ 1000000) (hb : -1000000 ≤ b) (hb' : b ≤ 1000000) (hc : c = -1 ∨ 0 < c) (hc' : c ≤ 1000000) : Builtin.Range.small a b c = true := by
  have hn : 0 ≤ Builtin.Range.rangeSize a b c ∧ Builtin.Range.rangeSize a b c ≤ 2000000 := by
    rcases hc with rfl | hc
    · unfold Builtin.Range.rangeSize; rw [if_neg (by decide)]; split
      · rw [show (-(-1) : Int) = 1 from rfl, Int.ediv_one]; omega
      · omega
    · have := rs_le (a := a) (b := b) hc; omega
  have e63 : (2 : Int) ^ 63 = 9223372036854775808 := by decide
  unfold Builtin.Range.small
  simp only [Builtin.Range.rangeFitsLong, Bool.and_eq_true, decide_eq_true_eq]
  generalize Builtin.Range.rangeSize a b c = n at hn
  rcases hc with rfl | hc
  · simp only [e63]; simp; omega
  · simp only [e63]; simp [show c ≠ 0 by omega, hc]; omega
end Mine
namespace Mine
/-! blocks, in plain Lean -/
structure Bk where
  a : Int
  n : Int
  d : Option Int
def Tiles : List Bk → Int → Int → Prop
  | [], a, l => a = l
  | b :: r, a, l => b.a = a ∧ Tiles r (a + b.n) l
theorem tiles_app {A B : List Bk} : ∀ {a l : Int}, Tiles (A ++ B) a l ↔ ∃ m, Tiles A a m ∧ Tiles B m l := by
  induction A with
  | nil => intro a l; exact ⟨fun h => ⟨a, rfl, h⟩, fun ⟨m, h1, h2⟩ => by cases h1; exact h2⟩
  | cons b r ih =>
    intro a l
    show b.a = a ∧ Tiles (r ++ B) _ l ↔ _
    rw [ih]
    exact ⟨fun ⟨h, m, h1, h2⟩ => ⟨m, ⟨h, h1⟩, h2⟩, fun ⟨m, ⟨h, h1⟩, h2⟩ => ⟨h, m, h1, h2⟩⟩
theorem tiles_bd {B : List Bk} : ∀ {a l : Int}, Tiles B a l → (∀ b ∈ B, 0 < b.n) → a ≤ l ∧ ∀ b ∈ B, a ≤ b.a ∧ b.a + b.n ≤ l := by
  induction B with
  | nil => intro a l h _; cases h; exact ⟨Int.le_refl _, fun b hb => nomatch hb⟩
  | cons c r ih =>
    rintro a l ⟨h1, h2⟩ hp
    obtain ⟨i1, i2⟩ := ih h2 fun b hb => hp b (.tail _ hb)
    have := hp c (.head _)
    refine ⟨by omega, fun b hb => ?_⟩
    rcases List.mem_cons.mp hb with rfl | hb
    · omega
    · have := i2 b hb; omega
theorem tiles_mid {pre suf : List Bk} {b : Bk} {a l : Int} (t : Tiles (pre ++ b :: suf) a l) (hp : ∀ c ∈ pre ++ b :: suf, 0 < c.n) :
    Tiles pre a b.a ∧ Tiles suf (b.a + b.n) l ∧ (∀ c ∈ pre, a ≤ c.a ∧ c.a + c.n ≤ b.a) ∧ (∀ c ∈ suf, b.a + b.n ≤ c.a ∧ c.a + c.n ≤ l) ∧ a ≤ b.a ∧ b.a + b.n ≤ l := by
  obtain ⟨m, t1, rfl, t2⟩ := tiles_app.mp t
  have b1 := tiles_bd t1 fun c hc => hp c (List.mem_append_left _ hc)
  have b2 := tiles_bd t2 fun c hc => hp c (List.mem_append_right _ (.tail _ hc))
  exact ⟨t1, t2, b1.2, b2.2, b1.1, b2.1⟩
/-- two blocks are one or apart -/
theorem tiles_two {B : List Bk} {a l : Int} (t : Tiles B a l) (hp : ∀ c ∈ B, 0 < c.n) {b c : Bk} (hb : b ∈ B) (hc : c ∈ B) : b = c ∨ b.a + b.n ≤ c.a ∨ c.a + c.n ≤ b.a := by
  obtain ⟨pre, suf, rfl⟩ := List.append_of_mem hb
  obtain ⟨_, _, h1, h2, _, _⟩ := tiles_mid t hp
  rcases List.mem_append.mp hc with h | h
  · exact .inr (.inr (h1 c h).2)
  · rcases List.mem_cons.mp h with rfl | h
    · exact .inl rfl
    · exact .inr (.inl (h2 c h).1)
theorem bsz_ok {r : Int} (h : 0 ≤ r) : 16 ≤ bsz r ∧ bsz r % 16 = 0 ∧ r + 8 ≤ bsz r ∧ bsz r ≤ r + 23 := by unfold bsz; omega
structure DescOk (M : Int → Int) (d : Int) : Prop where
  l : 0 ≤ d
  u : d < 1024
  e : d % 2 = 0
  w : 0 ≤ M (d / 4)
  v : M (d / 4) < 8000
def Head (M : Int → Int) (b : Bk) : Prop := match b.d with
  | none => M (b.a / 4) = b.n + 1
  | some d => M (b.a / 4) = d ∧ DescOk M d ∧ b.n = bsz (M (d / 4))
structure OkB (M : Int → Int) (b : Bk) : Prop where
  a : OkA b.a
  n : 16 ≤ b.n
  m : b.n % 16 = 0
  l : b.a + b.n ≤ 8192
  h : Head M b
theorem OkB.pos {M : Int → Int} {b : Bk} (o : OkB M b) : 0 < b.n := by have := o.n; omega
theorem OkB.size {M : Int → Int} {b : Bk} (o : OkB M b) : szAt M b.a = b.n ∧ (M (b.a / 4) % 2 = 1 ↔ b.d = none) ∧ (M (b.a / 4) % 2 = 1 ∨ (0 ≤ M (b.a / 4) ∧ M (b.a / 4) < 8192)) := by
  have h := o.h
  have m := o.m
  unfold Head at h
  cases hd : b.d with
  | none =>
    rw [hd] at h
    have h : M (b.a / 4) = b.n + 1 := h
    have odd : M (b.a / 4) % 2 = 1 := by rw [h]; omega
    exact ⟨by unfold szAt; rw [if_pos odd, h]; omega, ⟨fun _ => rfl, fun _ => odd⟩, .inl odd⟩
  | some d =>
    rw [hd] at h
    obtain ⟨h1, h2, h3⟩ := h
    have odd : ¬ M (b.a / 4) % 2 = 1 := by have := h2.e; rw [h1]; omega
    exact ⟨by unfold szAt; rw [if_neg odd, h1, h3], ⟨fun h => absurd h odd, fun h => by cases h⟩, .inr ⟨by rw [h1]; exact h2.l, by have := h2.u; rw [h1]; omega⟩⟩
structure Inv (M : Int → Int) (F : List Int) (Ls : Nat → List Int) (B : List Bk) (st lim : Int) : Prop where
  s0 : 1024 ≤ st
  l1 : lim ≤ 8192
  ti : Tiles B st lim
  ok : ∀ b ∈ B, OkB M b
  fl : FL M F Ls
  ls : ∀ i, i < 4 → ∀ x, x ∈ Ls i ↔ ∃ b ∈ B, b.a = x ∧ b.d = none ∧ (lnum b.n).toNat = i
theorem Inv.pos {M F Ls B st lim} (I : Inv M F Ls B st lim) : ∀ b ∈ B, 0 < b.n := fun b hb => (I.ok b hb).pos
theorem lnum_mono {a b : Int} (h : a ≤ b) : (lnum a).toNat ≤ (lnum b).toNat := by
  unfold lnum
  repeat' split
  all_goals omega
/-- words set to zero -/
def zr (M : Int → Int) (a : Int) (i : Nat) : Int → Int := fun k => if a / 4 ≤ k ∧ k < a / 4 + i then 0 else M k
theorem zr_zero (M : Int → Int) (a : Int) : zr M a 0 = M := by funext k; unfold zr; rw [if_neg]; omega
theorem zr_succ (M : Int → Int) (a : Int) (i : Nat) (ha : a % 4 = 0) : wr (zr M a i) (a + 4 * i) 0 = zr M a (i + 1) := by
  funext k
  unfold wr zr
  by_cases h : k = (a + 4 * i) / 4
  · rw [if_pos h, if_pos (by omega)]; rfl
  · rw [if_neg h]
    by_cases h' : a / 4 ≤ k ∧ k < a / 4 + i
    · rw [if_pos h', if_pos (by omega)]
    · rw [if_neg h', if_neg (by omega)]
theorem took_mem {M : Int → Int} {F : List Int} {Ls : Nat → List Int} (f : FL M F Ls) {i j : Nat} {x w : Int} (hi : i < 4) (hj : j < 4) (hx : x ∈ Ls i) : w ∈ lset Ls i ((Ls i).erase x) j ↔ w ∈ Ls j ∧ w ≠ x := by
  by_cases q : j = i
  · subst q; rw [lset_self, (f.nd j hj).mem_erase_iff]; exact And.comm
  · rw [lset_ne q]
    exact ⟨fun h => ⟨h, fun e => q (f.dj j i w hj hi h (e ▸ hx))⟩, fun h => h.1⟩
/-- what alloc leaves -/
structure Made (M : Int → Int) (B : List Bk) (pre : List Bk) (b : Bk) (suf : List Bk) (z d : Int) (M' : Int → Int) (F' : List Int) (Ls' : Nat → List Int) (st lim : Int) : Prop where
  inv : Inv M' F' Ls' (pre ++ ⟨b.a, z, some d⟩ :: ((if b.n - z > 0 then [⟨b.a + z, b.n - z, none⟩] else []) ++ suf)) st lim
  low : ∀ k, k < 256 → M' k = M k
  used : ∀ c ∈ B, c.d ≠ none → ∀ k, c.a / 4 ≤ k → k < (c.a + c.n) / 4 → M' k = M k
  zero : ∀ k, b.a / 4 < k → k < (b.a + z) / 4 → M' k = 0
theorem made_core {M M₁ M₂ : Int → Int} {F F₂ : List Int} {Ls Ls₂ : Nat → List Int} {pre suf R : List Bk} {b : Bk} {st lim z d : Int} (I : Inv M F Ls (pre ++ b :: suf) st lim) (hb : b.d = none) (hz : z = bsz (M (d / 4))) (D : DescOk M d) (hle : z ≤ b.n)
    (hR : R = if b.n - z > 0 then [⟨b.a + z, b.n - z, none⟩] else [])
    (s1 : ∀ k, (∀ c ∈ pre ++ b :: suf, c.d = none → c.a ≠ b.a → k ≠ (c.a + 4) / 4) → M₁ k = M k)
    (s2 : ∀ k, (k < (b.a + z) / 4 ∨ (b.a + b.n) / 4 ≤ k) → M₂ k = M₁ k) (s3 : b.n - z > 0 → M₂ ((b.a + z) / 4) = b.n - z + 1)
    (f2 : FL M₂ F₂ Ls₂) (hm : ∀ i, i < 4 → ∀ x, x ∈ Ls₂ i ↔ ∃ c ∈ pre ++ R ++ suf, c.a = x ∧ c.d = none ∧ (lnum c.n).toNat = i) :
    Made M (pre ++ b :: suf) pre b suf z d (zr (wr M₂ b.a d) (b.a + 4) (z / 4 - 1).toNat) F₂ Ls₂ st lim := by
  have ob := I.ok b (by simp)
  obtain ⟨oa1, oa2, oa3⟩ := ob.a
  have obn := ob.n
  have obm := ob.m
  have obl := ob.l
  obtain ⟨t1, t2, hp, hs, _, hlim⟩ := tiles_mid I.ti I.pos
  obtain ⟨z1, z2, z3, z4⟩ := bsz_ok D.w
  rw [← hz] at z1 z2 z3 z4
  have hl := I.l1
  have hs0 := I.s0
  have D1 := D.l
  have D2 := D.u
  have hk : ∀ k, (k < b.a / 4 ∨ (b.a + z) / 4 ≤ k) → zr (wr M₂ b.a d) (b.a + 4) (z / 4 - 1).toNat k = M₂ k := fun k h => by
    unfold zr wr; rw [if_neg (by omega), if_neg (by omega)]
  have hh : zr (wr M₂ b.a d) (b.a + 4) (z / 4 - 1).toNat (b.a / 4) = d := by
    unfold zr wr; rw [if_neg (by omega), if_pos rfl]; omega
  have hzr : ∀ k, b.a / 4 < k → k < (b.a + z) / 4 → zr (wr M₂ b.a d) (b.a + 4) (z / 4 - 1).toNat k = 0 := fun k h1 h2 => by
    unfold zr; rw [if_pos (by omega)]
  have okc : ∀ c, c ∈ pre ∨ c ∈ suf → c ∈ pre ++ b :: suf := fun c h => by
    rcases h with h | h
    · exact List.mem_append_left _ h
    · exact List.mem_append_right _ (.tail _ h)
  have apart : ∀ c, c ∈ pre ∨ c ∈ suf → st ≤ c.a ∧ (c.a + c.n ≤ b.a ∨ b.a + b.n ≤ c.a) := fun c h => by
    rcases h with h | h
    · have := hp c h; omega
    · have := hs c h; omega
  have seg : ∀ k, k < 256 → zr (wr M₂ b.a d) (b.a + 4) (z / 4 - 1).toNat k = M k := fun k h => by
    rw [hk k (by omega), s2 k (by omega), s1]
    intro c hc _ _
    obtain ⟨⟨c1, c2, c3⟩, _⟩ := I.ok c hc
    omega
  have cell : ∀ c, c ∈ pre ∨ c ∈ suf → ∀ k, c.a / 4 ≤ k → k < (c.a + c.n) / 4 → (c.d ≠ none ∨ k = c.a / 4) → zr (wr M₂ b.a d) (b.a + 4) (z / 4 - 1).toNat k = M k := fun c h k k1 k2 hd => by
    have ap := apart c h
    have oc := I.ok c (okc c h)
    obtain ⟨c1, c2, c3⟩ := oc.a
    have c4 := oc.n
    have c5 := oc.m
    rw [hk k (by omega), s2 k (by omega), s1]
    intro e he hed hea
    have oe := I.ok e he
    obtain ⟨e1, e2, e3⟩ := oe.a
    have e4 := oe.n
    have e5 := oe.m
    rcases tiles_two I.ti I.pos he (okc c h) with q | q | q
    · subst q
      rcases hd with hd | hd
      · exact absurd hed hd
      · omega
    · omega
    · omega
  have okM : ∀ d', DescOk M d' → DescOk (zr (wr M₂ b.a d) (b.a + 4) (z / 4 - 1).toNat) d' := fun d' h => by
    have e := seg (d' / 4) (by have := h.u; omega)
    exact ⟨h.l, h.u, h.e, by rw [e]; exact h.w, by rw [e]; exact h.v⟩
  have okO : ∀ c, c ∈ pre ∨ c ∈ suf → OkB (zr (wr M₂ b.a d) (b.a + 4) (z / 4 - 1).toNat) c := fun c h => by
    have oc := I.ok c (okc c h)
    obtain ⟨c1, c2, c3⟩ := oc.a
    have c4 := oc.n
    have c5 := oc.m
    have e := cell c h (c.a / 4) (by omega) (by omega) (.inr rfl)
    refine ⟨oc.a, oc.n, oc.m, oc.l, ?_⟩
    have hh := oc.h
    unfold Head at hh ⊢
    cases hd : c.d with
    | none => rw [hd] at hh; show _ = _; rw [e]; exact hh
    | some d' =>
      rw [hd] at hh
      obtain ⟨h1, h2, h3⟩ := hh
      exact ⟨by rw [e]; exact h1, okM d' h2, by rw [seg (d' / 4) (by have := h2.u; omega)]; exact h3⟩
  have memR : ∀ c ∈ R, c = ⟨b.a + z, b.n - z, none⟩ ∧ b.n - z > 0 := fun c h => by
    rw [hR] at h
    split at h
    · exact ⟨List.mem_singleton.mp h, by assumption⟩
    · cases h
  have okR : ∀ c ∈ R, OkB (zr (wr M₂ b.a d) (b.a + 4) (z / 4 - 1).toNat) c := fun c h => by
    obtain ⟨rfl, hpos⟩ := memR c h
    refine ⟨⟨?_, ?_, ?_⟩, ?_, ?_, ?_, ?_⟩
    · show 1024 ≤ b.a + z; omega
    · show b.a + z + 16 ≤ 8192; omega
    · show (b.a + z) % 16 = 0; omega
    · show 16 ≤ b.n - z; omega
    · show (b.n - z) % 16 = 0; omega
    · show b.a + z + (b.n - z) ≤ 8192; omega
    · show _ = _
      rw [hk ((b.a + z) / 4) (by omega)]; exact s3 hpos
  have memB : ∀ c, c ∈ pre ++ ⟨b.a, z, some d⟩ :: (R ++ suf) ↔ c ∈ pre ++ R ++ suf ∨ c = ⟨b.a, z, some d⟩ := fun c => by
    simp only [List.mem_append, List.mem_cons]
    constructor
    · rintro (h | h | h | h)
      · exact .inl (.inl (.inl h))
      · exact .inr h
      · exact .inl (.inl (.inr h))
      · exact .inl (.inr h)
    · rintro (((h | h) | h) | h)
      · exact .inl h
      · exact .inr (.inr (.inl h))
      · exact .inr (.inr (.inr h))
      · exact .inr (.inl h)
  refine ⟨?_, seg, fun c hc hcd k k1 k2 => ?_, hzr⟩
  · rw [← hR]
    refine ⟨hs0, hl, ?_, fun c hc => ?_, ?_, fun i hi x => ?_⟩
    · refine tiles_app.mpr ⟨b.a, t1, rfl, tiles_app.mpr ⟨b.a + b.n, ?_, t2⟩⟩
      rw [hR]
      split
      · exact ⟨rfl, by show _ = _; simp only []; omega⟩
      · show _ = _; simp only []; omega
    · rcases (memB c).mp hc with h | rfl
      · rcases List.mem_append.mp h with h | h
        · rcases List.mem_append.mp h with h | h
          · exact okO c (.inl h)
          · exact okR c h
        · exact okO c (.inr h)
      · refine ⟨ob.a, z1, z2, by show b.a + z ≤ 8192; omega, ?_⟩
        exact ⟨hh, okM d D, by rw [seg (d / 4) (by omega)]; exact hz⟩
    · have notin : ∀ i, i < 4 → ∀ x ∈ Ls₂ i, x + 16 ≤ b.a ∨ b.a + z ≤ x := fun i hi x hx => by
        obtain ⟨c, hc, rfl, _, _⟩ := (hm i hi x).mp hx
        rcases List.mem_append.mp hc with h | h
        · rcases List.mem_append.mp h with h | h
          · have := hp c h; have := (I.ok c (okc c (.inl h))).n; omega
          · obtain ⟨rfl, _⟩ := memR c h; right; exact Int.le_refl _
        · have := hs c h; omega
      refine f2.less f2.len (fun i hi => (f2.ch i hi).congr fun x hx => hk _ ?_) (fun i _ => List.Sublist.refl _) fun i hi x hx => hk _ ?_
      · have := notin i hi x hx
        obtain ⟨⟨_, _, _⟩, _⟩ := f2.ok i hi x hx
        omega
      · have := notin i hi x hx
        obtain ⟨⟨_, _, _⟩, _⟩ := f2.ok i hi x hx
        omega
    · rw [hm i hi x]
      constructor
      · rintro ⟨c, hc, h⟩; exact ⟨c, (memB c).mpr (.inl hc), h⟩
      · rintro ⟨c, hc, h1, h2, h3⟩
        rcases (memB c).mp hc with hc | rfl
        · exact ⟨c, hc, h1, h2, h3⟩
        · cases h2
  · have : c ∈ pre ∨ c ∈ suf := by
      rcases List.mem_append.mp hc with h | h
      · exact .inl h
      · rcases List.mem_cons.mp h with rfl | h
        · exact absurd hb hcd
        · exact .inr h
    exact cell c this k k1 k2 (.inl hcd)
end Mine
namespace Mine
theorem took_made {M M₁ : Int → Int} {F F₁ : List Int} {Ls : Nat → List Int} {B : List Bk} {st lim z d x : Int} {i : Nat} (I : Inv M F Ls B st lim) (hz : z = bsz (M (d / 4))) (D : DescOk M d) (hi : i < 4) (hx : x ∈ Ls i) (hle : z ≤ M (x / 4) - 1)
    (T : Took M F Ls i x M₁ F₁) : ∃ pre b suf, B = pre ++ b :: suf ∧ b.a = x ∧ b.d = none ∧ z ≤ b.n ∧ OkA x ∧ x + b.n ≤ 8192 ∧ b.n % 16 = 0 ∧ M₁ (x / 4) = b.n + 1 ∧
      (b.n - z ≤ 0 → ∃ Ls', Made M B pre b suf z d (zr (wr M₁ x d) (x + 4) (z / 4 - 1).toNat) F₁ Ls' st lim) ∧
      (b.n - z > 0 → ∃ Ls', Made M B pre b suf z d (zr (wr (wr (wr M₁ (x + z) (b.n - z + 1)) (x + z + 4) (F₁.getD (lnum (b.n - z)).toNat 0)) x d) (x + 4) (z / 4 - 1).toNat) (F₁.set (lnum (b.n - z)).toNat (x + z)) Ls' st lim) := by
  obtain ⟨b, hb, rfl, hbd, hbl⟩ := (I.ls i hi x).mp hx
  have ob := I.ok b hb
  have hM : M (b.a / 4) = b.n + 1 := by have := ob.h; unfold Head at this; rw [hbd] at this; exact this
  obtain ⟨pre, suf, rfl⟩ := List.append_of_mem hb
  obtain ⟨oa1, oa2, oa3⟩ := ob.a
  have obn := ob.n
  have obm := ob.m
  have obl := ob.l
  obtain ⟨t1, t2, hp, hs, _, hlim⟩ := tiles_mid I.ti I.pos
  obtain ⟨z1, z2, z3, z4⟩ := bsz_ok D.w
  rw [← hz] at z1 z2 z3 z4
  have hle' : z ≤ b.n := by omega
  have okc : ∀ c, c ∈ pre ∨ c ∈ suf → c ∈ pre ++ b :: suf := fun c h => by
    rcases h with h | h
    · exact List.mem_append_left _ h
    · exact List.mem_append_right _ (.tail _ h)
  have s1 : ∀ k, (∀ c ∈ pre ++ b :: suf, c.d = none → c.a ≠ b.a → k ≠ (c.a + 4) / 4) → M₁ k = M k := fun k h => T.same k fun p hp hn => by
    obtain ⟨c, hc, rfl, hd, _⟩ := (I.ls i hi p).mp hp
    exact h c hc hd hn
  have hM1 : M₁ (b.a / 4) = b.n + 1 := by
    rw [s1, hM]
    intro c hc _ _
    obtain ⟨⟨c1, c2, c3⟩, _⟩ := I.ok c hc
    omega
  have hm1 : ∀ j, j < 4 → ∀ x, x ∈ lset Ls i ((Ls i).erase b.a) j ↔ ∃ c ∈ pre ++ suf, c.a = x ∧ c.d = none ∧ (lnum c.n).toNat = j := fun j hj w => by
    rw [took_mem I.fl hi hj hx, I.ls j hj w]
    constructor
    · rintro ⟨⟨c, hc, rfl, h⟩, hne⟩
      refine ⟨c, ?_, rfl, h⟩
      rcases List.mem_append.mp hc with q | q
      · exact List.mem_append_left _ q
      · rcases List.mem_cons.mp q with rfl | q
        · exact absurd rfl hne
        · exact List.mem_append_right _ q
    · rintro ⟨c, hc, rfl, h⟩
      have hc' := List.mem_append.mp hc
      refine ⟨⟨c, okc c hc', rfl, h⟩, ?_⟩
      have := (I.ok c (okc c hc')).n
      rcases hc' with q | q
      · have := hp c q; omega
      · have := hs c q; omega
  refine ⟨pre, b, suf, rfl, rfl, hbd, hle', ob.a, obl, obm, hM1, fun h0 => ⟨lset Ls i ((Ls i).erase b.a), ?_⟩, fun h0 => ?_⟩
  · exact made_core (R := []) (M₁ := M₁) (M₂ := M₁) I hbd hz D hle' (by rw [if_neg (by omega)]) s1 (fun _ _ => rfl) (fun h => absurd h (by omega)) T.fl (by simpa using hm1)
  · have lb := lnum_bd (b.n - z)
    have ho : OkA (b.a + z) := ⟨by omega, by omega, by omega⟩
    have hn : ∀ j, j < 4 → b.a + z ∉ lset Ls i ((Ls i).erase b.a) j := fun j hj h => by
      obtain ⟨c, hc, e, _⟩ := (hm1 j hj _).mp h
      have hc' := List.mem_append.mp hc
      have := (I.ok c (okc c hc')).n
      rcases hc' with q | q
      · have := hp c q; omega
      · have := hs c q; omega
    obtain ⟨p1, p2, p3⟩ := T.fl.put (i := (lnum (b.n - z)).toNat) (by omega) ho hn (s := b.n - z) (by omega) (by omega) (by omega)
    refine ⟨_, made_core (R := [⟨b.a + z, b.n - z, none⟩]) (M₁ := M₁) (M₂ := wr (wr M₁ (b.a + z) (b.n - z + 1)) (b.a + z + 4) (F₁.getD (lnum (b.n - z)).toNat 0)) I hbd hz D hle' (by rw [if_pos h0]) s1 (fun k hk => p2 k (by omega) (by omega)) (fun _ => p3) p1 fun j hj w => ?_⟩
    have base := hm1 j hj w
    have e : w ∈ lset (lset Ls i ((Ls i).erase b.a)) (lnum (b.n - z)).toNat ((b.a + z) :: lset Ls i ((Ls i).erase b.a) (lnum (b.n - z)).toNat) j ↔ (w = b.a + z ∧ j = (lnum (b.n - z)).toNat) ∨ w ∈ lset Ls i ((Ls i).erase b.a) j := by
      by_cases q : j = (lnum (b.n - z)).toNat
      · subst q; rw [lset_self, List.mem_cons]; simp
      · rw [lset_ne q]; simp [q]
    rw [e, base]
    simp only [List.mem_append, List.mem_singleton]
    constructor
    · rintro (⟨rfl, rfl⟩ | ⟨c, hc, h⟩)
      · exact ⟨_, .inl (.inr rfl), rfl, rfl, rfl⟩
      · rcases hc with hc | hc
        · exact ⟨c, .inl (.inl hc), h⟩
        · exact ⟨c, .inr hc, h⟩
    · rintro ⟨c, (hc | rfl) | hc, h1, h2, h3⟩
      · exact .inr ⟨c, .inl hc, h1, h2, h3⟩
      · exact .inl ⟨h1.symm, h3.symm⟩
      · exact .inr ⟨c, .inr hc, h1, h2, h3⟩
end Mine
namespace Mine
open PySem.Calls PySem.Spec
inductive All2 {α β : Type} (F : α → β → Prop) : List α → List β → Prop
  | nil : All2 F [] []
  | cons {a b l r} : F a b → All2 F l r → All2 F (a :: l) (b :: r)
theorem All2.len {α β : Type} {F : α → β → Prop} {l : List α} {r : List β} (h : All2 F l r) : l.length = r.length := by
  induction h with
  | nil => rfl
  | cons _ _ ih => simp [ih]
theorem All2.mono {α β : Type} {F G : α → β → Prop} {l : List α} {r : List β} (h : All2 F l r) (g : ∀ a b, F a b → G a b) : All2 G l r := by
  induction h with
  | nil => exact .nil
  | cons h _ ih => exact .cons (g _ _ h) ih
theorem All2.app {α β : Type} {F : α → β → Prop} {l l' : List α} {r r' : List β} (h : All2 F l r) (h' : All2 F l' r') : All2 F (l ++ l') (r ++ r') := by
  induction h with
  | nil => exact h'
  | cons h _ ih => exact .cons h ih
theorem All2.snoc {α β : Type} {F : α → β → Prop} {l : List α} {r : List β} {a : α} {b : β} (h : All2 F l r) (h' : F a b) : All2 F (l ++ [a]) (r ++ [b]) := h.app (.cons h' .nil)
theorem All2.get {α β : Type} {F : α → β → Prop} {l : List α} {r : List β} (h : All2 F l r) : ∀ {i : Nat} {a : α}, l[i]? = some a → ∃ b, r[i]? = some b ∧ F a b := by
  induction h with
  | nil => intro i a e; simp at e
  | cons h _ ih =>
    intro i a e
    cases i with
    | zero => simp at e; subst e; exact ⟨_, by simp, h⟩
    | succ i => simp at e; simpa using ih e
theorem All2.getR {α β : Type} {F : α → β → Prop} {l : List α} {r : List β} (h : All2 F l r) : ∀ {i : Nat} {b : β}, r[i]? = some b → ∃ a, l[i]? = some a ∧ F a b := by
  induction h with
  | nil => intro i a e; simp at e
  | cons h _ ih =>
    intro i a e
    cases i with
    | zero => simp at e; subst e; exact ⟨_, by simp, h⟩
    | succ i => simp at e; simpa using ih e
theorem All2.mem {α β : Type} {F : α → β → Prop} {l : List α} {r : List β} (h : All2 F l r) {a : α} (ha : a ∈ l) : ∃ b ∈ r, F a b := by
  obtain ⟨i, hi⟩ := List.mem_iff_getElem?.mp ha
  obtain ⟨b, hb, f⟩ := h.get hi
  exact ⟨b, List.mem_of_getElem? hb, f⟩
def Sub (R R' : Hp) : Prop := ∀ b ao, R b = some ao → R' b = some ao
def TupSub (R R' : Hp) : Prop := ∀ t xs, R t = some (.tup xs) → R' t = some (.tup xs)
theorem Sub.refl (R : Hp) : Sub R R := fun _ _ e => e
theorem Sub.trans {A B C : Hp} (x : Sub A B) (y : Sub B C) : Sub A C := fun _ _ e => y _ _ (x _ _ e)
theorem Sub.tup {R R' : Hp} (x : Sub R R') : TupSub R R' := fun _ _ e => x _ _ e
theorem TupSub.trans {A B C : Hp} (x : TupSub A B) (y : TupSub B C) : TupSub A C := fun _ _ e => y _ _ (x _ _ e)
theorem Sub.new {R : Hp} {b : Addr} {ao : AO} (h : R b = none) : Sub R (upd R b ao) := fun c co e => by rw [upd_ne (fun q => by subst q; rw [h] at e; cases e)]; exact e
theorem TupSub.upd {R : Hp} {b : Addr} {ao : AO} (h : ∀ xs, R b ≠ some (.tup xs)) : TupSub R (upd R b ao) := fun c xs e => by rw [upd_ne (fun q => by subst q; exact h xs e)]; exact e
theorem TupSub.del {R : Hp} {b : Addr} (h : ∀ xs, R b ≠ some (.tup xs)) : TupSub R (del R b) := fun c xs e => by rw [del_ne (fun q => by subst q; exact h xs e)]; exact e
/-- a block as blocks() tells it -/
def DV (dv : Value) : Option Int → Prop
  | none => dv = .none
  | some d => ∃ t, dv = .int d t
def BkTup (R : Hp) (v : Value) (b : Bk) : Prop := ∃ t ta tn dv, v = .ref t ∧ R t = some (.tup [.int b.a ta, .int b.n tn, dv]) ∧ DV dv b.d
theorem BkTup.mono {R R' : Hp} (h : TupSub R R') (v : Value) (b : Bk) (x : BkTup R v b) : BkTup R' v b := let ⟨t, ta, tn, dv, e, q, r⟩ := x; ⟨t, ta, tn, dv, e, h _ _ q, r⟩
theorem tiles_lt {S : List Bk} {a l : Int} (t : Tiles S a l) (hp : ∀ b ∈ S, 0 < b.n) : (a < l → ∃ b r, S = b :: r ∧ b.a = a ∧ Tiles r (a + b.n) l) ∧ (¬ a < l → S = []) := by
  cases S with
  | nil => cases t; exact ⟨fun h => absurd h (Int.lt_irrefl _), fun _ => rfl⟩
  | cons b r =>
    obtain ⟨h1, h2⟩ := t
    have := (tiles_bd h2 fun c hc => hp c (.tail _ hc)).1
    have := hp b (.head _)
    exact ⟨fun _ => ⟨b, r, rfl, h1, h2⟩, fun h => by omega⟩
theorem tiles_len : ∀ {B : List Bk} {a l : Int}, Tiles B a l → (∀ b ∈ B, 16 ≤ b.n) → 16 * (B.length : Int) ≤ l - a
  | [], _, _, t, _ => by cases t; simp
  | b :: r, a, l, ⟨_, t⟩, h => by
    have h1 := tiles_len t fun c hc => h c (.tail _ hc)
    have h2 := h b (.head _)
    simp only [List.length_cons]
    omega
theorem if_bool {p : Prop} {b : Bool} {A B : Prop} (e : b = true ↔ p) (h1 : p → A) (h2 : ¬p → B) : if b = true then A else B := by
  split
  · exact h1 (e.mp (by assumption))
  · exact h2 fun h => by rename_i q; exact q (e.mpr h)
end Mine
namespace Mine
/-! sweep, in plain Lean -/
abbrev kp (M : Int → Int) (b : Bk) : Prop := b.d ≠ none ∧ M ((b.a + 4) / 4) ≠ 0
def NA : List Bk → Prop
  | x :: y :: r => (x.d ≠ none ∨ y.d ≠ none) ∧ NA (y :: r)
  | _ => True
theorem na_snoc {c : Bk} : ∀ {A : List Bk}, NA A → (∀ l, A.getLast? = some l → l.d ≠ none ∨ c.d ≠ none) → NA (A ++ [c])
  | [], _, _ => trivial
  | [x], _, h => ⟨h x rfl, trivial⟩
  | x :: y :: r, n, h => ⟨n.1, na_snoc (A := y :: r) n.2 fun l hl => h l (by rw [List.getLast?_cons_cons]; exact hl)⟩
theorem na_last {c c' : Bk} (hd : c.d = c'.d) : ∀ {A : List Bk}, NA (A ++ [c]) → NA (A ++ [c'])
  | [], _ => trivial
  | [x], n => ⟨by rw [← hd]; exact n.1, trivial⟩
  | x :: y :: r, n => ⟨n.1, na_last hd (A := y :: r) n.2⟩
/-- the sum of what goes -/
def frd (M : Int → Int) : List Bk → Int
  | [] => 0
  | b :: r => (if b.d ≠ none ∧ ¬ kp M b then b.n else 0) + frd M r
theorem frd_snoc (M : Int → Int) (b : Bk) : ∀ A : List Bk, frd M (A ++ [b]) = frd M A + (if b.d ≠ none ∧ ¬ kp M b then b.n else 0)
  | [] => by simp [frd]
  | a :: r => by rw [List.cons_append, frd, frd, frd_snoc M b r]; omega
structure SwA (M : Int → Int) (P A : List Bk) (M' : Int → Int) (st cur : Int) : Prop where
  ti : Tiles A st cur
  us : ∀ c ∈ A, c.d ≠ none → c ∈ P ∧ kp M c
  fr : ∀ c ∈ A, c.d = none → OkA c.a ∧ 16 ≤ c.n ∧ c.n % 16 = 0
  kp : ∀ b ∈ P, kp M b → b ∈ A
  m0 : ∀ b ∈ P, Mine.kp M b → M' ((b.a + 4) / 4) = 0
  m1 : ∀ k, (∀ b ∈ P, Mine.kp M b → k ≠ (b.a + 4) / 4) → M' k = M k
  na : NA A
theorem mem_snoc {α : Type} {a b : α} {l : List α} : a ∈ l ++ [b] ↔ a ∈ l ∨ a = b := by simp
theorem tiles_snoc {A : List Bk} {st cur : Int} {b : Bk} (t : Tiles A st cur) (h : b.a = cur) : Tiles (A ++ [b]) st (cur + b.n) := tiles_app.mpr ⟨cur, t, h, rfl⟩
theorem SwA.keep {M M' : Int → Int} {P A : List Bk} {st cur : Int} {b : Bk} (S : SwA M P A M' st cur) (hb : b.a = cur) (hk : Mine.kp M b) : SwA M (P ++ [b]) (A ++ [b]) (wr M' (b.a + 4) 0) st (cur + b.n) where
  ti := tiles_snoc S.ti hb
  us := fun c hc hd => by
    rcases mem_snoc.mp hc with h | rfl
    · exact ⟨List.mem_append_left _ (S.us c h hd).1, (S.us c h hd).2⟩
    · exact ⟨by simp, hk⟩
  fr := fun c hc hd => by
    rcases mem_snoc.mp hc with h | rfl
    · exact S.fr c h hd
    · exact absurd hd hk.1
  kp := fun c hc h => by
    rcases mem_snoc.mp hc with h' | rfl
    · exact List.mem_append_left _ (S.kp c h' h)
    · simp
  m0 := fun c hc h => by
    unfold wr
    split
    · rfl
    · rename_i q
      rcases mem_snoc.mp hc with h' | rfl
      · exact S.m0 c h' h
      · exact absurd rfl q
  m1 := fun k h => by
    unfold wr
    rw [if_neg (h b (by simp) hk)]
    exact S.m1 k fun c hc => h c (List.mem_append_left _ hc)
  na := na_snoc S.na fun l _ => .inr hk.1
theorem SwA.gone {M M' : Int → Int} {P A A' : List Bk} {st cur : Int} {b : Bk} (S : SwA M P A M' st cur) (hk : ¬ Mine.kp M b) (ti : Tiles A' st (cur + b.n)) (us : ∀ c ∈ A', c.d ≠ none → c ∈ A) (fr : ∀ c ∈ A', c.d = none → OkA c.a ∧ 16 ≤ c.n ∧ c.n % 16 = 0) (kp' : ∀ c ∈ A, c.d ≠ none → c ∈ A') (na : NA A') :
    SwA M (P ++ [b]) A' M' st (cur + b.n) where
  ti := ti
  us := fun c hc hd => ⟨List.mem_append_left _ (S.us c (us c hc hd) hd).1, (S.us c (us c hc hd) hd).2⟩
  fr := fr
  kp := fun c hc h => by
    rcases mem_snoc.mp hc with h' | rfl
    · exact kp' c (S.kp c h' h) h.1
    · exact absurd h hk
  m0 := fun c hc h => by
    rcases mem_snoc.mp hc with h' | rfl
    · exact S.m0 c h' h
    · exact absurd h hk
  m1 := fun k h => S.m1 k fun c hc => h c (List.mem_append_left _ hc)
  na := na
theorem SwA.join {M M' : Int → Int} {P A : List Bk} {st cur : Int} {b c : Bk} (S : SwA M P (A ++ [c]) M' st cur) (hk : ¬ Mine.kp M b) (hc : c.d = none) (hn : 16 ≤ b.n) (hm : b.n % 16 = 0) : SwA M (P ++ [b]) (A ++ [⟨c.a, c.n + b.n, none⟩]) M' st (cur + b.n) ∧ c.a + c.n = cur := by
  obtain ⟨m, t1, rfl, t2⟩ := tiles_app.mp S.ti
  cases t2
  refine ⟨S.gone hk (tiles_app.mpr ⟨c.a, t1, rfl, by show _ = _; simp only []; omega⟩) (fun e he hd => ?_) (fun e he hd => ?_) (fun e he hd => ?_) (na_last (by rw [hc]) S.na), rfl⟩
  · rcases mem_snoc.mp he with h | rfl
    · exact List.mem_append_left _ h
    · exact absurd rfl hd
  · rcases mem_snoc.mp he with h | rfl
    · exact S.fr e (List.mem_append_left _ h) hd
    · obtain ⟨q1, q2, q3⟩ := S.fr c (by simp) hc
      exact ⟨q1, by show 16 ≤ c.n + b.n; omega, by show (c.n + b.n) % 16 = 0; omega⟩
  · rcases mem_snoc.mp he with h | rfl
    · exact List.mem_append_left _ h
    · exact absurd hc hd
theorem SwA.start {M M' : Int → Int} {P A : List Bk} {st cur : Int} {b : Bk} (S : SwA M P A M' st cur) (hk : ¬ Mine.kp M b) (hb : b.a = cur) (hl : ∀ l, A.getLast? = some l → l.d ≠ none) (ha : OkA b.a) (hn : 16 ≤ b.n) (hm : b.n % 16 = 0) :
    SwA M (P ++ [b]) (A ++ [⟨b.a, b.n, none⟩]) M' st (cur + b.n) :=
  S.gone hk (tiles_app.mpr ⟨cur, S.ti, hb, rfl⟩) (fun e he hd => by
    rcases mem_snoc.mp he with h | rfl
    · exact h
    · exact absurd rfl hd) (fun e he hd => by
    rcases mem_snoc.mp he with h | rfl
    · exact S.fr e h hd
    · exact ⟨ha, hn, hm⟩) (fun e he _ => List.mem_append_left _ he) (na_snoc S.na fun l h => .inl (hl l h))
def frees (A : List Bk) : List Bk := A.filter fun c => c.d.isNone
theorem frees_app (A B : List Bk) : frees (A ++ B) = frees A ++ frees B := List.filter_append ..
theorem mem_frees {A : List Bk} {c : Bk} : c ∈ frees A ↔ c ∈ A ∧ c.d = none := by unfold frees; rw [List.mem_filter]; simp
structure SwF (M' : Int → Int) (G : List Bk) (M'' : Int → Int) (F : List Int) (Ls : Nat → List Int) : Prop where
  fl : FL M'' F Ls
  ls : ∀ i, i < 4 → ∀ x, x ∈ Ls i ↔ ∃ c ∈ G, c.a = x ∧ (lnum c.n).toNat = i
  hd : ∀ c ∈ G, M'' (c.a / 4) = c.n + 1
  m : ∀ k, (∀ c ∈ G, k ≠ c.a / 4 ∧ k ≠ (c.a + 4) / 4) → M'' k = M' k
theorem SwF.nil (M : Int → Int) : SwF M [] M [0, 0, 0, 0] (fun _ => []) where
  fl := ⟨rfl, fun i hi => by
      match i, hi with
      | 0, _ => rfl
      | 1, _ => rfl
      | 2, _ => rfl
      | 3, _ => rfl, fun _ _ _ h => (nomatch h), fun _ _ => List.Pairwise.nil, fun _ _ _ _ _ h => (nomatch h)⟩
  ls := fun _ _ _ => ⟨fun h => (nomatch h), fun ⟨_, h, _⟩ => (nomatch h)⟩
  hd := fun _ h => (nomatch h)
  m := fun _ _ => rfl
theorem SwF.cons {M' M'' : Int → Int} {G : List Bk} {F : List Int} {Ls : Nat → List Int} {g : Bk} (S : SwF M' G M'' F Ls) (ho : OkA g.a) (hn : 16 ≤ g.n) (hm : g.n % 16 = 0) (hl : g.a + g.n ≤ 8192) (hG : ∀ c ∈ G, c.a ≠ g.a) (hO : ∀ c ∈ G, OkA c.a) :
    ∃ Ls', SwF M' (g :: G) (wr (wr M'' g.a (g.n + 1)) (g.a + 4) (F.getD (lnum g.n).toNat 0)) (F.set (lnum g.n).toNat g.a) Ls' := by
  have lb := lnum_bd g.n
  have ho' := ho
  obtain ⟨o1, o2, o3⟩ := ho'
  obtain ⟨p1, p2, p3⟩ := S.fl.put (i := (lnum g.n).toNat) (by omega) ho (s := g.n) (fun j hj h => by
    obtain ⟨c, hc, e, _⟩ := (S.ls j hj _).mp h
    exact hG c hc e) (by omega) (by omega) (by omega)
  refine ⟨_, p1, fun i hi x => ?_, fun c hc => ?_, fun k hk => ?_⟩
  · have e : x ∈ lset Ls (lnum g.n).toNat (g.a :: Ls (lnum g.n).toNat) i ↔ (x = g.a ∧ i = (lnum g.n).toNat) ∨ x ∈ Ls i := by
      by_cases q : i = (lnum g.n).toNat
      · subst q; rw [lset_self, List.mem_cons]; simp
      · rw [lset_ne q]; simp [q]
    rw [e, S.ls i hi x]
    constructor
    · rintro (⟨rfl, rfl⟩ | ⟨c, hc, h⟩)
      · exact ⟨g, .head _, rfl, rfl⟩
      · exact ⟨c, .tail _ hc, h⟩
    · rintro ⟨c, hc, h1, h2⟩
      rcases List.mem_cons.mp hc with rfl | hc
      · exact .inl ⟨h1.symm, h2.symm⟩
      · exact .inr ⟨c, hc, h1, h2⟩
  · rcases List.mem_cons.mp hc with rfl | hc
    · exact p3
    · obtain ⟨c1, c2, c3⟩ := hO c hc
      have := hG c hc
      rw [p2 _ (by omega) (by omega)]; exact S.hd c hc
  · have := hk g (.head _)
    rw [p2 k this.1 this.2]
    exact S.m k fun c hc => hk c (.tail _ hc)
structure Swept (M : Int → Int) (B : List Bk) (M' : Int → Int) (F' : List Int) (Ls' : Nat → List Int) (B' : List Bk) (st lim : Int) : Prop where
  inv : Inv M' F' Ls' B' st lim
  us : ∀ c ∈ B', c.d ≠ none → c ∈ B ∧ kp M c
  kp : ∀ b ∈ B, kp M b → b ∈ B'
  low : ∀ k, k < 256 → M' k = M k
  body : ∀ b ∈ B, Mine.kp M b → ∀ k, (b.a + 8) / 4 ≤ k → k < (b.a + b.n) / 4 → M' k = M k
  mark : ∀ b ∈ B, Mine.kp M b → M' ((b.a + 4) / 4) = 0
  na : NA B'
theorem swept {M M₁ M₂ : Int → Int} {F F₂ : List Int} {Ls Ls₂ : Nat → List Int} {B A : List Bk} {st lim : Int} (I : Inv M F Ls B st lim) (S : SwA M B A M₁ st lim) (f : SwF M₁ (frees A) M₂ F₂ Ls₂) : Swept M B M₂ F₂ Ls₂ A st lim := by
  have pos : ∀ c ∈ A, 0 < c.n := fun c hc => by
    cases hd : c.d with
    | none => have := (S.fr c hc hd).2.1; omega
    | some d => exact (I.ok c (S.us c hc (by rw [hd]; simp)).1).pos
  have okA : ∀ c ∈ A, OkA c.a ∧ 16 ≤ c.n ∧ c.n % 16 = 0 := fun c hc => by
    cases hd : c.d with
    | none => exact S.fr c hc hd
    | some d => have := I.ok c (S.us c hc (by rw [hd]; simp)).1; exact ⟨this.a, this.n, this.m⟩
  have bd := (tiles_bd S.ti pos).2
  have l1 := I.l1
  have s0 := I.s0
  have low : ∀ k, k < 256 → M₂ k = M k := fun k hk => by
    rw [f.m k fun c hc => ?_, S.m1 k fun b hb _ => ?_]
    · obtain ⟨⟨_, _, _⟩, _⟩ := I.ok b hb; omega
    · obtain ⟨⟨_, _, _⟩, _⟩ := okA c (mem_frees.mp hc).1; omega
  have cell : ∀ b ∈ B, Mine.kp M b → ∀ k, b.a / 4 ≤ k → k < (b.a + b.n) / 4 → M₂ k = M₁ k := fun b hb hk k k1 k2 => by
    have hbA := S.kp b hb hk
    obtain ⟨⟨b1, b2, b3⟩, b4, b5⟩ := okA b hbA
    refine f.m k fun c hc => ?_
    obtain ⟨hcA, hcd⟩ := mem_frees.mp hc
    obtain ⟨⟨c1, c2, c3⟩, c4, c5⟩ := okA c hcA
    rcases tiles_two S.ti pos hbA hcA with rfl | q | q
    · exact absurd hcd hk.1
    · omega
    · omega
  have body : ∀ b ∈ B, ∀ k, b.a / 4 ≤ k → k < (b.a + b.n) / 4 → k ≠ (b.a + 4) / 4 → M₁ k = M k := fun b hb k k1 k2 k3 => by
    refine S.m1 k fun e he hke => ?_
    have ob := I.ok b hb
    have oe := I.ok e he
    obtain ⟨b1, b2, b3⟩ := ob.a
    obtain ⟨e1, e2, e3⟩ := oe.a
    have := ob.n
    have := oe.n
    have := ob.m
    rcases tiles_two I.ti I.pos hb he with rfl | q | q
    · exact k3
    · omega
    · omega
  refine ⟨⟨s0, l1, S.ti, fun c hc => ?_, f.fl, fun i hi x => ?_⟩, S.us, S.kp, low, fun b hb hk k k1 k2 => ?_, fun b hb hk => ?_, S.na⟩
  · obtain ⟨q1, q2, q3⟩ := okA c hc
    refine ⟨q1, q2, q3, by have := bd c hc; omega, ?_⟩
    obtain ⟨q4, q5, q6⟩ := q1
    unfold Head
    cases hd : c.d with
    | none => exact f.hd c (mem_frees.mpr ⟨hc, hd⟩)
    | some d =>
      obtain ⟨hB, hk⟩ := S.us c hc (by rw [hd]; simp)
      have h := (I.ok c hB).h
      unfold Head at h
      rw [hd] at h
      obtain ⟨h1, h2, h3⟩ := h
      have e := low (d / 4) (by have := h2.u; omega)
      refine ⟨?_, ⟨h2.l, h2.u, h2.e, by rw [e]; exact h2.w, by rw [e]; exact h2.v⟩, by rw [e]; exact h3⟩
      rw [cell c hB hk _ (by omega) (by omega), body c hB _ (by omega) (by omega) (by omega)]
      exact h1
  · rw [f.ls i hi x]
    constructor
    · rintro ⟨c, hc, h1, h2⟩; obtain ⟨a, b⟩ := mem_frees.mp hc; exact ⟨c, a, h1, b, h2⟩
    · rintro ⟨c, hc, h1, h2, h3⟩; exact ⟨c, mem_frees.mpr ⟨hc, h2⟩, h1, h3⟩
  · have ob := I.ok b hb
    obtain ⟨b1, b2, b3⟩ := ob.a
    rw [cell b hb hk k (by omega) k2, body b hb k (by omega) k2 (by omega)]
  · have ob := I.ok b hb
    obtain ⟨b1, b2, b3⟩ := ob.a
    have := ob.n
    rw [cell b hb hk _ (by omega) (by omega)]
    exact S.m0 b hb hk
end Mine
namespace Mine
open PySem.Calls PySem.Spec
theorem All2.unsnoc {α β : Type} {F : α → β → Prop} {b : β} : ∀ {l : List α} {r : List β}, All2 F l (r ++ [b]) → ∃ l' a, l = l' ++ [a] ∧ All2 F l' r ∧ F a b
  | _, [], .cons h .nil => ⟨[], _, rfl, .nil, h⟩
  | _, _ :: _, .cons h t => let ⟨l', a, e, h1, h2⟩ := t.unsnoc; ⟨_ :: l', a, by rw [e]; rfl, .cons h h1, h2⟩
def RunTup (R : Hp) (v : Value) (c : Bk) : Prop := ∃ t ta tn, v = .ref t ∧ R t = some (.tup [.int c.a ta, .int c.n tn])
theorem RunTup.mono {R R' : Hp} (h : TupSub R R') (v : Value) (b : Bk) (x : RunTup R v b) : RunTup R' v b := let ⟨t, ta, tn, e, q⟩ := x; ⟨t, ta, tn, e, h _ _ q⟩
theorem getLast_snoc {α : Type} {A : List α} {c : α} : (A ++ [c]).getLast? = some c := by simp
theorem frees_snoc_used {A : List Bk} {b : Bk} (h : b.d ≠ none) : frees (A ++ [b]) = frees A := by
  rw [frees_app]; simp only [frees, List.filter_cons, List.filter_nil]
  cases hd : b.d with
  | none => exact absurd hd h
  | some d => simp
theorem frees_snoc_free {A : List Bk} {b : Bk} (h : b.d = none) : frees (A ++ [b]) = frees A ++ [b] := by
  rw [frees_app]; simp [frees, h]
section
variable {X : Fx} {n : Nat} {C : Cx} {m : Loc} {H : Hp} {env : Env}
theorem w_unpack2 {x₁ x₂ : Str} {p₁ p₂ pos : Pos} {k : Nat} {t : Addr} {a b : Value} {Q : Unit → Loc → Hp → Prop} (ht : H t = some (.tup [a, b]))
    (h : W X n C (storeName env x₁ a) m H (fun _ m₁ H₁ => W X n C (storeName env x₂ b) m₁ H₁ Q)) : W X n C (assign (.Tuple [.Name x₁ p₁, .Name x₂ p₂] k pos) env (.ref t)) m H Q := by
  refine w_unpack ht rfl rfl ?_
  refine w_order (w_asName (w_mono h fun v m' H' h' => ?_))
  exact w_order (w_asName (w_mono h' fun v m'' H'' h'' => w_order0 h''))
theorem w_unpack3 {x₁ x₂ x₃ : Str} {p₁ p₂ p₃ pos : Pos} {k : Nat} {t : Addr} {a b c : Value} {Q : Unit → Loc → Hp → Prop} (ht : H t = some (.tup [a, b, c]))
    (h : W X n C (storeName env x₁ a) m H (fun _ m₁ H₁ => W X n C (storeName env x₂ b) m₁ H₁ (fun _ m₂ H₂ => W X n C (storeName env x₃ c) m₂ H₂ Q))) : W X n C (assign (.Tuple [.Name x₁ p₁, .Name x₂ p₂, .Name x₃ p₃] k pos) env (.ref t)) m H Q := by
  refine w_unpack ht rfl rfl ?_
  refine w_order (w_asName (w_mono h fun v m' H' h' => ?_))
  refine w_order (w_asName (w_mono h' fun v m'' H'' h'' => ?_))
  exact w_order (w_asName (w_mono h'' fun v m'' H'' h'' => w_order0 h''))
end
end Mine
namespace Mine
theorem noPylong_m1 {x : Int} : Builtin.divisionGoesByPylong x (-1) = false := noPylong (Nat.lt_trans (show (-1 : Int).natAbs < 1000000000000 by decide) (by decide +kernel))
theorem tiles_pw : ∀ {A : List Bk} {st l : Int}, Tiles A st l → (∀ c ∈ A, 0 < c.n) → A.Pairwise fun b c => b.a + b.n ≤ c.a
  | [], _, _, _, _ => .nil
  | b :: r, st, l, ⟨e, t⟩, h => by
    refine .cons (fun c hc => ?_) (tiles_pw t fun c hc => h c (.tail _ hc))
    have := (tiles_bd t fun c hc => h c (.tail _ hc)).2 c hc
    omega
theorem frees_apart {A G₁ G₂ : List Bk} {g : Bk} {st l : Int} (t : Tiles A st l) (h : ∀ c ∈ A, 0 < c.n) (e : frees A = G₁ ++ [g] ++ G₂) : ∀ c ∈ G₂, c.a ≠ g.a := by
  have p : (frees A).Pairwise fun b c => b.a + b.n ≤ c.a := (tiles_pw t h).sublist List.filter_sublist
  intro c hc q
  have hg := h g (mem_frees.mp (by rw [e]; simp)).1
  rw [e] at p
  rw [List.pairwise_append] at p
  have := p.2.2 g (by simp) c hc
  omega
end Mine
namespace Mine
open PySem.Calls PySem.Spec
theorem upd_upd (H : Hp) (a : Addr) (x z : AO) : upd (upd H a x) a z = upd H a z := by
  funext b; unfold upd; split <;> rfl
section
variable {X : Fx} {n : Nat} {C : Cx} {m : Loc} {H : Hp} {env : Env}
theorem w_pow {a k : Int} {t u : Tok} {Q : Value → Loc → Hp → Prop} (hn : 0 ≤ k) (hn2 : k ≤ 1000000) (ha : a.natAbs < 2 ^ 64) (q : ∀ t, Q (.int (a ^ k.toNat) t) m H) : W X n C (binaryOp .Pow (.int a t) (.int k u)) m H Q := w_of fun _ _ _ S =>
  pow_int_small hn hn2 ha ⟨m, H, S.toks _, q _⟩
end
structure HandV (R : Hp) (cl : Addr) (xs : List Value) (L : List Value) : Prop where
  c : R cl = some (.list xs)
  i : ∀ x ∈ xs, ∃ k t, x = .int k t
  l : xs.length ≤ 63
  h : ∃ i d s t1 t2 t3, L = [.ref cl, .int i t1, .int d t2, .int s t3] ∧ 0 ≤ i ∧ i ≤ xs.length ∧ 0 ≤ d ∧ 0 ≤ s ∧ s < 2147483647
def HandIs (hand cl : Addr) (R : Hp) : Prop := ∃ xs L, R hand = some (.list L) ∧ HandV R cl xs L ∧ cl ≠ hand
theorem HandIs.keep {hand cl : Addr} {R R' : Hp} (h : HandIs hand cl R) (s1 : R' hand = R hand) (s2 : R' cl = R cl) : HandIs hand cl R' :=
  let ⟨xs, L, h1, h2, h3⟩ := h; ⟨xs, L, s1.trans h1, ⟨s2.trans h2.c, h2.i, h2.l, h2.h⟩, h3⟩
theorem HandIs.sub {hand cl : Addr} {R R' : Hp} (h : HandIs hand cl R) (s : Sub R R') : HandIs hand cl R' :=
  let ⟨xs, L, h1, h2, h3⟩ := h; ⟨xs, L, s _ _ h1, ⟨s _ _ h2.c, h2.i, h2.l, h2.h⟩, h3⟩
theorem HandIs.is {hand cl : Addr} {R : Hp} (h : HandIs hand cl R) : ∃ L, R hand = some (.list L) := let ⟨_, L, h1, _⟩ := h; ⟨L, h1⟩
theorem HandIs.cs {hand cl : Addr} {R : Hp} (h : HandIs hand cl R) : ∃ L, R cl = some (.list L) := let ⟨_, _, _, h2, _⟩ := h; ⟨_, h2.c⟩
/-- the hand's turn: the list turned, the cells as they were -/
theorem HandIs.turn {hand : Addr} {R : Hp} {cl : Addr} {xs L L' : List Value} (h : R hand = some (.list L)) (c : HandV R cl xs L) (n : cl ≠ hand) (i d s : Int) (t1 t2 t3 : Tok) (e : L' = [.ref cl, .int i t1, .int d t2, .int s t3]) (h0 : 0 ≤ i) (h1 : i ≤ xs.length) (h2 : 0 ≤ d) (h3 : 0 ≤ s) (h4 : s < 2147483647) :
    HandIs hand cl (upd R hand (.list L')) := ⟨xs, L', upd_self _ _ _, ⟨by rw [upd_ne n]; exact c.c, c.i, c.l, i, d, s, t1, t2, t3, e, h0, h1, h2, h3, h4⟩, n⟩
/-- a kind: its place and its width -/
def KindIs (R : Hp) (v : Value) (k : Int × Int) : Prop := ∃ t ta tw o, v = .ref t ∧ R t = some (.tup [.int k.1 ta, .int k.2 tw, .ref o])
theorem KindIs.mono {R R' : Hp} (h : TupSub R R') (v : Value) (k : Int × Int) (x : KindIs R v k) : KindIs R' v k := let ⟨t, ta, tw, o, e, q⟩ := x; ⟨t, ta, tw, o, e, h _ _ q⟩
/-- all but one address is kept -/
def SubX (a : Addr) (R R' : Hp) : Prop := ∀ b ao, b ≠ a → R b = some ao → R' b = some ao
theorem SubX.refl (a : Addr) (R : Hp) : SubX a R R := fun _ _ _ e => e
theorem SubX.trans {a : Addr} {A B C : Hp} (x : SubX a A B) (y : SubX a B C) : SubX a A C := fun _ _ n e => y _ _ n (x _ _ n e)
theorem Sub.x {a : Addr} {A B : Hp} (x : Sub A B) : SubX a A B := fun _ _ _ e => x _ _ e
theorem SubX.upd {a : Addr} {R : Hp} {ao : AO} : SubX a R (upd R a ao) := fun _ _ n e => by rw [upd_ne n]; exact e
theorem SubX.tup {a : Addr} {R R' : Hp} (x : SubX a R R') (h : ∀ xs, R a ≠ some (.tup xs)) : TupSub R R' := fun b xs e => x b _ (fun q => by subst q; exact h xs e) e
inductive RunsJ (CM CH : Addr) (y : Yd) (R : Hp) (M : Int → Int) (F : List Int) (st lim : Int) (B : List Bk) (vs : List Value) (rl : Addr) (i : Nat) (m : Loc) (H : Hp) : Prop
  | mk (gm : m "memory" = some (.ref y.mm.a)) (gr : m "runs" = some (.ref rl)) (P Bs A : List Bk) (M' : Int → Int) (R' : Hp) (rs : List Value) (cur bh : Int) (tf tb : Tok) (eB : B = P ++ Bs) (hi : P.length = i) (tl : Tiles Bs cur lim) (sw : SwA M P A M' st cur)
    (sub : Sub R R') (S : HS CM CH y R' M' F st lim H) (al : All2 (BkTup R') vs B) (hrs : R' rl = some (.list rs)) (ar : All2 (RunTup R') rs (frees A)) (gf : m "freed" = some (.int (frd M P) tf)) (gb : m "behind" = some (.int bh tb))
    (hbh : (∃ A' c, A = A' ++ [c] ∧ c.d = none ∧ bh = cur) ∨ ((∀ l, A.getLast? = some l → l.d ≠ none) ∧ (frees A ≠ [] → bh < cur)))
end Mine
namespace Mine
open PySem.Calls PySem.Spec
def KindsOk (M : Int → Int) (kinds : List (Int × Int)) : Prop := ∀ p ∈ kinds, (64 ≤ p.1 ∧ p.1 ≤ 352 ∧ p.1 % 4 = 0 ∧ p.1 % 2 = 0) ∧ M (p.1 / 4) = p.2 ∧ p.2 % 4 = 0 ∧ 0 ≤ p.2 ∧ p.2 ≤ 44
theorem KindsOk.desc {M : Int → Int} {kinds : List (Int × Int)} (h : KindsOk M kinds) {p : Int × Int} (hp : p ∈ kinds) : DescOk M p.1 := by
  obtain ⟨⟨a, b, c, d⟩, e, f, g, i⟩ := h p hp
  exact ⟨by omega, by omega, d, by omega, by omega⟩
theorem KindsOk.low {M M' : Int → Int} {kinds : List (Int × Int)} (h : KindsOk M kinds) (l : ∀ k, k < 256 → M' k = M k) : KindsOk M' kinds := fun p hp => by
  obtain ⟨⟨a, b, c, d⟩, e, f, g, i⟩ := h p hp
  exact ⟨⟨a, b, c, d⟩, by rw [l _ (by omega)]; exact e, f, g, i⟩
theorem SubX.at {a : Addr} {R R' : Hp} (x : SubX a R R') {b : Addr} {ao : AO} (e : R b = some ao) (n : b ≠ a) : R' b = some ao := x b ao n e
theorem inv_one {M M' : Int → Int} {F' : List Int} {Ls' : Nat → List Int} {st lim : Int} (f : SwF M [⟨st, lim - st, none⟩] M' F' Ls') (h0 : 1024 ≤ st) (h1 : st % 16 = 0) (h2 : lim ≤ 8192) (h3 : st + 16 ≤ lim) (h4 : lim % 16 = 0) : Inv M' F' Ls' [⟨st, lim - st, none⟩] st lim := by
  refine ⟨h0, h2, ⟨rfl, by show _ = _; simp only []; omega⟩, fun b hb => ?_, f.fl, fun i hi x => ?_⟩
  · have hh := f.hd b hb
    rw [List.mem_singleton] at hb
    subst hb
    exact ⟨⟨h0, by show st + 16 ≤ 8192; omega, h1⟩, by show 16 ≤ lim - st; omega, by show (lim - st) % 16 = 0; omega, by show st + (lim - st) ≤ 8192; omega, hh⟩
  · rw [f.ls i hi x]
    constructor
    · rintro ⟨c, hc, h, h'⟩; refine ⟨c, hc, h, ?_, h'⟩; rw [List.mem_singleton.mp hc]
    · rintro ⟨c, hc, h, _, h'⟩; exact ⟨c, hc, h, h'⟩
end Mine
namespace Mine
open PySem.Calls PySem.Spec
structure Rec where
  t : Int
  a : Int
  w : Int
def usedOf (B : List Bk) : List (Int × Int) := B.filterMap fun b => b.d.map fun d => (b.a, d)
def Rec.key (r : Rec) : Int × Int := (r.t - 8, r.a)
theorem usedOf_app (A B : List Bk) : usedOf (A ++ B) = usedOf A ++ usedOf B := List.filterMap_append
theorem usedOf_free {b : Bk} (h : b.d = none) (B : List Bk) : usedOf (b :: B) = usedOf B := by simp [usedOf, h]
theorem usedOf_used {b : Bk} {d : Int} (h : b.d = some d) (B : List Bk) : usedOf (b :: B) = (b.a, d) :: usedOf B := by simp [usedOf, h]
theorem mem_usedOf {B : List Bk} {p : Int × Int} : p ∈ usedOf B ↔ ∃ b ∈ B, b.a = p.1 ∧ b.d = some p.2 := by
  unfold usedOf
  rw [List.mem_filterMap]
  constructor
  · rintro ⟨b, hb, e⟩
    cases hd : b.d with
    | none => rw [hd] at e; cases e
    | some d => rw [hd] at e; cases e; exact ⟨b, hb, rfl, hd⟩
  · rintro ⟨b, hb, e1, e2⟩
    exact ⟨b, hb, by rw [e2, e1]; rfl⟩
def Marks (M : Int → Int) (B : List Bk) : Prop := ∀ b ∈ B, b.d ≠ none → M ((b.a + 4) / 4) = 0
theorem Made.keys {M : Int → Int} {B pre suf : List Bk} {b : Bk} {z d : Int} {M' : Int → Int} {F' : List Int} {Ls' : Nat → List Int} {st lim : Int} (_ : Made M B pre b suf z d M' F' Ls' st lim) (eB : B = pre ++ b :: suf) (hb : b.d = none) {ks : List (Int × Int)} (p : ks.Perm (usedOf B)) :
    (ks ++ [(b.a, d)]).Perm (usedOf (pre ++ ⟨b.a, z, some d⟩ :: ((if b.n - z > 0 then [⟨b.a + z, b.n - z, none⟩] else []) ++ suf))) := by
  have e1 : usedOf B = usedOf pre ++ usedOf suf := by rw [eB, usedOf_app, usedOf_free hb]
  have e2 : usedOf (pre ++ ⟨b.a, z, some d⟩ :: ((if b.n - z > 0 then [⟨b.a + z, b.n - z, none⟩] else []) ++ suf)) = usedOf pre ++ (b.a, d) :: usedOf suf := by
    rw [usedOf_app, usedOf_used (d := d) rfl]
    congr 2
    split
    · rw [List.singleton_append, usedOf_free rfl]
    · rfl
  rw [e2]
  rw [e1] at p
  exact (p.append_right [(b.a, d)]).trans (by
    rw [List.append_assoc]
    exact List.Perm.append_left _ (List.perm_append_comm))
theorem Made.marks {M : Int → Int} {B pre suf : List Bk} {b : Bk} {z d : Int} {M' : Int → Int} {F' : List Int} {Ls' : Nat → List Int} {st lim : Int} (K : Made M B pre b suf z d M' F' Ls' st lim) (eB : B = pre ++ b :: suf) (I : ∀ c ∈ B, OkA c.a ∧ 16 ≤ c.n) (hz : 16 ≤ z) (m : Marks M B) :
    Marks M' (pre ++ ⟨b.a, z, some d⟩ :: ((if b.n - z > 0 then [⟨b.a + z, b.n - z, none⟩] else []) ++ suf)) := by
  intro c hc hd
  have old : ∀ c ∈ B, c.d ≠ none → M' ((c.a + 4) / 4) = 0 := fun c hc hd => by
    obtain ⟨⟨_, _, _⟩, _⟩ := I c hc
    rw [K.used c hc hd _ (by omega) (by omega)]; exact m c hc hd
  rcases List.mem_append.mp hc with h | h
  · exact old c (by rw [eB]; exact List.mem_append_left _ h) hd
  · rcases List.mem_cons.mp h with rfl | h
    · obtain ⟨⟨_, _, _⟩, _⟩ := I b (by rw [eB]; simp)
      exact K.zero _ (by show b.a / 4 < (b.a + 4) / 4; omega) (by show (b.a + 4) / 4 < (b.a + z) / 4; omega)
    · rcases List.mem_append.mp h with h | h
      · split at h
        · rw [List.mem_singleton.mp h] at hd; exact absurd rfl hd
        · cases h
      · exact old c (by rw [eB]; exact List.mem_append_right _ (.tail _ h)) hd
theorem Inv.oka {M F Ls B st lim} (I : Inv M F Ls B st lim) : ∀ c ∈ B, OkA c.a ∧ 16 ≤ c.n := fun c hc => ⟨(I.ok c hc).a, (I.ok c hc).n⟩
end Mine
namespace Mine
open PySem.Calls PySem.Spec
def valI : Option Value → Int
  | some (.int k _) => k
  | _ => 0
section
variable {X : Fx} {n : Nat} {C : Cx} {m : Loc} {H : Hp} {env : Env}
theorem w_sum {l : Addr} {xs : List Value} {Q : Value → Loc → Hp → Prop} (hl : H l = some (.list xs)) (hi : ∀ x ∈ xs, ∃ k t, x = .int k t) (q : ∀ t, Q (.int (preSum (fun i => valI xs[i]?) xs.length) t) m H) : W X n C (call (.builtin "sum") [.ref l]) m H Q := w_of fun E s a S => by
  obtain ⟨o, ho, e, rfl⟩ := S.at hl
  have hls := S.isList hl
  have hne : l ≠ s.heap.objs.size := Nat.ne_of_lt (Heap.lt_size ho)
  refine call_sum_walkG (wpAny_pyIter_list hls ?_)
  have Wk := Walks.list (prog := X.prog) (w := X.w) (A := C.A.in1) a.h s.heap.objs.size l hne xs.toArray
  have eN : xs.toArray.size = xs.length := List.size_toArray ..
  rw [eN] at Wk
  refine ⟨s.heap.objs.size, _, _, xs.length, _, _, fun i => valI xs[i]?, rfl, Wk, ⟨⟨_, Heap.get?_push_size _ rfl, rfl, rfl⟩, hls.push _⟩, fun b hb => ?_, fun i v hv => ?_, fun h' tk t' k' => ?_⟩
  · show b < (s.heap.push _).objs.size
    rw [Heap.size_push]
    rcases List.mem_cons.mp hb with rfl | hb
    · exact Nat.lt_succ_self _
    · rw [List.mem_singleton.mp hb]; exact Nat.lt_succ_of_lt (Heap.lt_size ho)
  · have hv' : xs[i]? = some v := by simpa using hv
    obtain ⟨k, t, rfl⟩ := hi v (List.mem_of_getElem? hv')
    exact ⟨t, by show Value.int k t = Value.int (valI xs[i]?) t; rw [hv']; rfl⟩
  · refine ⟨m, H, ?_, q _⟩
    exact S.wrote (wr := [s.heap.objs.size]) (fun b o hb e => k' b o hb (Heap.get?_push_of_some _ e)) fun b hb => by rw [List.mem_singleton.mp hb]; exact ⟨S.none_of_size (Nat.le_refl _), S.fresh (Nat.le_refl _), S.ne_of_size (Nat.le_refl _)⟩
theorem w_slice {x : Str} {px pk p pos : Pos} {kk : Nat} {k : Int} {l : Addr} {vs : List Value} {ns : List Int} {Q : Value → Loc → Hp → Prop} (hx : m x = some (.ref l)) (hl : C.h₀.IsList l vs.toArray) (hi : IntsAre vs ns) (hz : vs.length ≤ sizeLine) (hk : 0 ≤ k)
    (q : ∀ d ys, H d = none → IntsAre ys (ns.take k.toNat) → Q (.ref d) m (upd H d (.list ys)))
    (hL : env.locals = C.L) (hf : env.scope.kind = .function) (hloc : env.kindOf x = some .local) (hd : (x == ("__debug__" : Str)) = false) :
    W X n C (eval (.Subscript (.Name x px) (.Slice none (some (.Constant (.int k) kk pk)) none p) pos) env) m H Q := w_of fun E s a S => by
  refine wpAny_Subscript_list_slice (wpAny_mono ((w_local (X := X) (n := n) (C := C) (H := H) (Q := fun v m' H' => v = .ref l ∧ m' = m ∧ H' = H) hx ⟨rfl, rfl, rfl⟩ hL hf hloc hd).go E s a S) (fun o s₁ z => ?_) fun _ _ e => e)
  obtain ⟨m₁, H₁, S₁, rfl, rfl, rfl⟩ := z
  rw [evalPart_none]
  refine wpAny_pure ?_
  refine wpAny_mono ((w_int (X := X) (n := n) (C := C) (H := H₁) (m := m₁) (env := env) (i := k) (k := kk) (pos := pk) (Q := fun v m' H' => (∃ t, v = .int k t) ∧ m' = m₁ ∧ H' = H₁) fun t => ⟨⟨t, rfl⟩, rfl, rfl⟩).go E s₁ a S₁) (fun vu s₃ z => ?_) fun _ _ e => e
  obtain ⟨m₃, H₃, S₃, ⟨t, rfl⟩, rfl, rfl⟩ := z
  obtain ⟨o, ho, e⟩ := hl
  refine ⟨l, vs.toArray, none, some k, rfl, ⟨o, S₃.kp _ _ ho, e⟩, by simpa using hz, .none, .int _ _, ?_⟩
  have hys := kmk_upto hi hk
  have hfr : H₃ (s₃.heap.objs.size + 1) = none := S₃.fresh (Nat.le_succ _)
  refine ⟨m₃, upd H₃ (s₃.heap.objs.size + 1) (.list (slicePick vs.toArray none (some k) none).toList), ?_, q _ _ hfr hys⟩
  have k1 : Keep s₃.heap (s₃.heap.push { cls := .type "slice", data := .fields #[.none, .int k t, .none] }) := (Keep.refl _).push _
  refine S₃.new (tk := s₃.toks) (o := { cls := .type "list", data := .seq (slicePick vs.toArray none (some k) none) }) (Nat.le_succ _) (k1.push _) ?_ ⟨0, by simp⟩
  have := Heap.get?_push_size (s₃.heap.push { cls := .type "slice", data := .fields #[.none, .int k t, .none] }) (o := { cls := .type "list", data := .seq (slicePick vs.toArray none (some k) none) }) rfl
  rw [Heap.size_push] at this
  exact this
theorem ints_of {vs : List Value} {ns : List Int} (h : IntsAre vs ns) : (∀ x ∈ vs, ∃ k t, x = .int k t) ∧ vs.length = ns.length := by
  induction h with
  | nil => exact ⟨fun _ h => (nomatch h), rfl⟩
  | cons k t _ ih =>
    refine ⟨fun x hx => ?_, by simp [ih.2]⟩
    rcases List.mem_cons.mp hx with rfl | hx
    · exact ⟨_, _, rfl⟩
    · exact ih.1 x hx
end
end Mine
namespace Mine
theorem Inv.frame {M M' : Int → Int} {F : List Int} {Ls : Nat → List Int} {B : List Bk} {st lim : Int} (I : Inv M F Ls B st lim) (l : ∀ k, k < 256 → M' k = M k) (h : ∀ b ∈ B, M' (b.a / 4) = M (b.a / 4)) (f : ∀ b ∈ B, b.d = none → M' ((b.a + 4) / 4) = M ((b.a + 4) / 4)) : Inv M' F Ls B st lim := by
  refine ⟨I.s0, I.l1, I.ti, fun b hb => ?_, I.fl.less I.fl.len (fun i hi => (I.fl.ch i hi).congr fun x hx => ?_) (fun _ _ => List.Sublist.refl _) fun i hi x hx => ?_, I.ls⟩
  · have o := I.ok b hb
    refine ⟨o.a, o.n, o.m, o.l, ?_⟩
    have hh := o.h
    unfold Head at hh ⊢
    cases hd : b.d with
    | none => rw [hd] at hh; show _ = _; rw [h b hb]; exact hh
    | some d =>
      rw [hd] at hh
      obtain ⟨h1, h2, h3⟩ := hh
      have e := l (d / 4) (by have := h2.u; omega)
      exact ⟨by rw [h b hb]; exact h1, ⟨h2.l, h2.u, h2.e, by rw [e]; exact h2.w, by rw [e]; exact h2.v⟩, by rw [e]; exact h3⟩
  · obtain ⟨b, hb, rfl, hd, _⟩ := (I.ls i hi x).mp hx
    exact f b hb hd
  · obtain ⟨b, hb, rfl, hd, _⟩ := (I.ls i hi x).mp hx
    exact h b hb
/-- marks set at some records -/
structure Marked (M : Int → Int) (recs : List Rec) (M' : Int → Int) : Prop where
  m : ∀ r ∈ recs, M' ((r.t - 4) / 4) ≠ 0
  k : ∀ k, (∀ r ∈ recs, k ≠ (r.t - 4) / 4) → M' k = M k
theorem Marked.nil (M : Int → Int) : Marked M [] M := ⟨fun _ h => (nomatch h), fun _ _ => rfl⟩
theorem Marked.snoc {M M' : Int → Int} {recs : List Rec} (h : Marked M recs M') (r : Rec) {v : Int} (h0 : 0 < v) (h1 : v < 4294967296) : Marked M (recs ++ [r]) (wr M' (r.t - 4) v) := by
  refine ⟨fun s hs => ?_, fun k hk => ?_⟩
  · unfold wr
    split
    · omega
    · rename_i q
      rcases mem_snoc.mp hs with hs | rfl
      · exact h.m s hs
      · exact absurd rfl q
  · unfold wr
    rw [if_neg (hk r (by simp))]
    exact h.k k fun s hs => hk s (List.mem_append_left _ hs)
theorem key_block {M F Ls B st lim} (I : Inv M F Ls B st lim) {recs : List Rec} (p : ∀ r ∈ recs, r.key ∈ usedOf B) {r : Rec} (hr : r ∈ recs) : ∃ b ∈ B, b.a = r.t - 8 ∧ b.d = some r.a ∧ OkA b.a := by
  obtain ⟨b, hb, h1, h2⟩ := mem_usedOf.mp (p r hr)
  exact ⟨b, hb, h1, h2, (I.ok b hb).a⟩
theorem inv_marked {M M' F Ls B st lim} (I : Inv M F Ls B st lim) {recs : List Rec} (p : ∀ r ∈ recs, r.key ∈ usedOf B) (mk : Marked M recs M') : Inv M' F Ls B st lim := by
  refine I.frame (fun k hk => mk.k k fun r hr => ?_) (fun b hb => mk.k _ fun r hr => ?_) fun b hb hd => mk.k _ fun r hr => ?_
  · obtain ⟨b, hb, e, _, ⟨_, _, _⟩⟩ := key_block I p hr; omega
  · obtain ⟨c, hc, e, _, ⟨_, _, _⟩⟩ := key_block I p hr; obtain ⟨_, _, _⟩ := (I.ok b hb).a; omega
  · obtain ⟨c, hc, e, hcd, ⟨_, _, _⟩⟩ := key_block I p hr
    have ob := I.ok b hb
    have oc := I.ok c hc
    obtain ⟨_, _, _⟩ := ob.a
    have := ob.n
    have := oc.n
    rcases tiles_two I.ti I.pos hb hc with rfl | q | q
    · rw [hd] at hcd; cases hcd
    · omega
    · omega
theorem kp_marked {M M' F Ls B st lim} (I : Inv M F Ls B st lim) {recs : List Rec} (p : ∀ r ∈ recs, r.key ∈ usedOf B) (mk : Marked M recs M') (z : Marks M B) {b : Bk} (hb : b ∈ B) : kp M' b ↔ ∃ r ∈ recs, r.t - 8 = b.a ∧ b.d = some r.a := by
  obtain ⟨b1, b2, b3⟩ := (I.ok b hb).a
  constructor
  · rintro ⟨hd, hm⟩
    by_cases h : ∃ r ∈ recs, (b.a + 4) / 4 = (r.t - 4) / 4
    · obtain ⟨r, hr, e⟩ := h
      obtain ⟨c, hc, e1, e2, ⟨_, _, _⟩⟩ := key_block I p hr
      have : b = c := by
        have ob := (I.ok b hb).n
        have oc := (I.ok c hc).n
        rcases tiles_two I.ti I.pos hb hc with q | q | q
        · exact q
        · omega
        · omega
      subst this
      exact ⟨r, hr, e1.symm, e2⟩
    · rw [mk.k _ fun r hr e => h ⟨r, hr, e⟩] at hm
      exact absurd (z b hb hd) hm
  · rintro ⟨r, hr, e, hd⟩
    refine ⟨by rw [hd]; simp, ?_⟩
    have := mk.m r hr
    rwa [show (r.t - 4) / 4 = (b.a + 4) / 4 by omega] at this
theorem usedOf_nodup {B : List Bk} {st lim : Int} (t : Tiles B st lim) (h : ∀ c ∈ B, 0 < c.n) : (usedOf B).Nodup := by
  have p := tiles_pw t h
  unfold List.Nodup usedOf
  rw [List.pairwise_filterMap]
  refine p.imp_of_mem fun {a b} ha hb hab => ?_
  intro x hx y hy e
  cases hda : a.d with
  | none => rw [hda] at hx; cases hx
  | some d =>
    cases hdb : b.d with
    | none => rw [hdb] at hy; cases hy
    | some d' =>
      rw [hda] at hx
      rw [hdb] at hy
      cases hx
      cases hy
      have := h a ha
      injection e with e1 e2
      omega
theorem swept_keys {M M₁ M₂ F F₂ Ls Ls₂ B B' st lim} (I : Inv M F Ls B st lim) {recs recs' : List Rec} (p : (recs.map Rec.key).Perm (usedOf B)) (sl : recs'.Sublist recs) (mk : Marked M recs' M₁) (z : Marks M B) (S : Swept M₁ B M₂ F₂ Ls₂ B' st lim) :
    (recs'.map Rec.key).Perm (usedOf B') ∧ Marks M₂ B' := by
  have hk : ∀ r ∈ recs', r.key ∈ usedOf B := fun r hr => p.mem_iff.mp (List.mem_map.mpr ⟨r, sl.subset hr, rfl⟩)
  have kc := fun {b : Bk} (hb : b ∈ B) => kp_marked I hk mk z hb
  refine ⟨?_, fun b hb hd => S.mark b (S.us b hb hd).1 (S.us b hb hd).2⟩
  have n1 : (recs'.map Rec.key).Nodup := (p.nodup_iff.mpr (usedOf_nodup I.ti I.pos)).sublist (sl.map _)
  have n2 := usedOf_nodup S.inv.ti S.inv.pos
  refine (List.perm_ext_iff_of_nodup n1 n2).mpr fun x => ?_
  rw [mem_usedOf, List.mem_map]
  constructor
  · rintro ⟨r, hr, rfl⟩
    obtain ⟨b, hb, e1, e2, _⟩ := key_block I hk hr
    exact ⟨b, S.kp b hb ((kc hb).mpr ⟨r, hr, e1.symm, e2⟩), e1, e2⟩
  · rintro ⟨b, hb, e1, e2⟩
    obtain ⟨hB, hkp⟩ := S.us b hb (by rw [e2]; simp)
    obtain ⟨r, hr, h1, h2⟩ := (kc hB).mp hkp
    refine ⟨r, hr, ?_⟩
    rw [e2] at h2
    injection h2 with h2
    show (r.t - 8, r.a) = x
    rw [h1, ← h2, e1]
/-! block_of -/
end Mine
namespace Mine
def PermN (n : Nat) (p : Array Nat) : Prop := p.toList.Perm (List.range n)
theorem PermN.size {n : Nat} {p : Array Nat} (h : PermN n p) : p.size = n := by
  have := h.length_eq
  simpa using this
theorem PermN.get {n : Nat} {p : Array Nat} (h : PermN n p) {i : Nat} (hi : i < n) : p[i]? = some (p.getD i 0) := by
  have hs := h.size
  simp [Array.getD, hs, hi]
theorem PermN.lt {n : Nat} {p : Array Nat} (h : PermN n p) {i : Nat} (hi : i < n) : p.getD i 0 < n := by
  have hm : p.getD i 0 ∈ p.toList := by
    have := h.get hi
    rw [← Array.getElem?_toList] at this
    exact List.mem_of_getElem? this
  simpa using h.mem_iff.mp hm
theorem PermN.ne {n : Nat} {p : Array Nat} (h : PermN n p) {i j : Nat} (hi : i < n) (hj : j < n) (hij : i ≠ j) : p.getD i 0 ≠ p.getD j 0 := by
  have nd : p.toList.Nodup := h.nodup_iff.mpr List.nodup_range
  have hs := h.size
  intro e
  have e1 := h.get hi
  have e2 := h.get hj
  rw [← Array.getElem?_toList] at e1 e2
  rw [e] at e1
  exact hij ((List.getElem?_inj (by simpa [hs] using hi) nd).mp (e1.trans e2.symm))
def Asc (f : Nat → Int) (p : Array Nat) (b : Nat) : Prop := ∀ i j, i < j → j < b → f (p.getD i 0) < f (p.getD j 0)
def Desc (f : Nat → Int) (p : Array Nat) (b : Nat) : Prop := ∀ i j, i < j → j < b → f (p.getD j 0) < f (p.getD i 0)
theorem permN_range (n : Nat) : PermN n (List.toArray (List.range n)) := List.Perm.refl _
section
variable {f : Nat → Int} {n : Nat} {cmp : Nat → Nat → (Bool → Shared → Prop) → Shared → Prop} {s : Shared}
  (hc : ∀ i j C, i < n → j < n → i ≠ j → C (decide (f i < f j)) s → cmp i j C s) (inj : ∀ i j, i < n → j < n → f i = f j → i = j)
include hc inj
theorem s_asc {Q : Nat → Shared → Prop} {p : Array Nat} (P : PermN n p) : ∀ (fu m : Nat), 1 ≤ m → m + fu = n → Asc f p m →
    (∀ m', m ≤ m' → m' ≤ n → Asc f p m' → (m' < n → f (p.getD m' 0) < f (p.getD (m' - 1) 0)) → Q m' s) → (kas_asc p fu m).kasWp cmp Q s
  | 0, m, h1, h2, ha, q => q m (Nat.le_refl _) (by omega) ha (fun h => by omega)
  | fu + 1, m, h1, h2, ha, q => by
    refine hc _ _ _ (P.lt (by omega)) (P.lt (by omega)) (P.ne (by omega) (by omega) (by omega)) ?_
    by_cases hlt : f (p.getD m 0) < f (p.getD (m - 1) 0)
    · rw [decide_eq_true hlt]
      exact q m (Nat.le_refl _) (by omega) ha (fun _ => hlt)
    · rw [decide_eq_false hlt]
      refine s_asc P fu (m + 1) (by omega) (by omega) (fun i j hij hj => ?_) fun m' a b c d => q m' (by omega) b c d
      have hne : f (p.getD m 0) ≠ f (p.getD (m - 1) 0) := fun e => P.ne (i := m) (j := m - 1) (by omega) (by omega) (by omega) (inj _ _ (P.lt (by omega)) (P.lt (by omega)) e)
      by_cases e : j = m
      · subst e
        by_cases e' : i = j - 1
        · subst e'; omega
        · have := ha i (j - 1) (by omega) (by omega); omega
      · exact ha i j hij (by omega)
theorem s_desc {Q : Array Nat × Nat × Nat → Shared → Prop} {p : Array Nat} (P : PermN n p) : ∀ (fu m : Nat), 2 ≤ m → m + fu = n → Desc f p m →
    (∀ m', m ≤ m' → m' ≤ n → Desc f p m' → Q (p, m', 0) s) → (kas_desc fu p m 0).kasWp cmp Q s
  | 0, m, h1, h2, ha, q => q m (Nat.le_refl _) (by omega) ha
  | fu + 1, m, h1, h2, ha, q => by
    refine hc _ _ _ (P.lt (by omega)) (P.lt (by omega)) (P.ne (by omega) (by omega) (by omega)) ?_
    have hne : f (p.getD m 0) ≠ f (p.getD (m - 1) 0) := fun e => P.ne (i := m) (j := m - 1) (by omega) (by omega) (by omega) (inj _ _ (P.lt (by omega)) (P.lt (by omega)) e)
    by_cases hlt : f (p.getD m 0) < f (p.getD (m - 1) 0)
    · rw [decide_eq_true hlt]
      refine s_desc P fu (m + 1) (by omega) (by omega) (fun i j hij hj => ?_) fun m' a b c => q m' (by omega) b c
      by_cases e : j = m
      · subst e
        by_cases e' : i = j - 1
        · subst e'; omega
        · have := ha i (j - 1) (by omega) (by omega); omega
      · exact ha i j hij (by omega)
    · rw [decide_eq_false hlt]
      refine hc _ _ _ (P.lt (by omega)) (P.lt (by omega)) (P.ne (by omega) (by omega) (by omega)) ?_
      rw [decide_eq_true (show f (p.getD (m - 1) 0) < f (p.getD m 0) by omega)]
      exact q m (Nat.le_refl _) (by omega) ha
omit hc inj in
theorem s_rev {p : Array Nat} (P : PermN n p) {m : Nat} (hm : m ≤ n) (hd : Desc f p m) : PermN n (kas_rev p 0 m) ∧ Asc f (kas_rev p 0 m) m := by
  have hs := P.size
  have P' : PermN n (kas_rev p 0 m) := (Array.perm_iff_toList_perm.mp (mirror_perm p 0 m ((m - 0) / 2))).trans P
  refine ⟨P', fun i j hij hj => ?_⟩
  have g : ∀ k, k < m → (kas_rev p 0 m).getD k 0 = p.getD (m - 1 - k) 0 := fun k hk => by
    have e := getElem?_mirror_all (xs := p) (i := 0) (j := m) (by omega) k
    rw [if_pos ⟨by omega, hk⟩] at e
    have e1 := P'.get (i := k) (by omega)
    have e2 := P.get (i := m - 1 - k) (by omega)
    have e3 : (kas_rev p 0 m)[k]? = p[0 + m - 1 - k]? := e
    rw [e1, show 0 + m - 1 - k = m - 1 - k by omega, e2] at e3
    exact Option.some.inj e3
  rw [g i (by omega), g j hj]
  exact hd _ _ (by omega) (by omega)
theorem s_count {Q : Nat × Array Nat → Shared → Prop} {p : Array Nat} (P : PermN n p) (h2 : 2 ≤ n) (q : ∀ m p', 1 ≤ m → m ≤ n → PermN n p' → Asc f p' m → Q (m, p') s) : (kas_count n p).kasWp cmp Q s := by
  unfold kas_count
  rw [KasT.kasWp_bind]
  refine s_asc hc inj P (n - 1) 1 (Nat.le_refl _) (by omega) (fun i j hij hj => by omega) fun m h1 hm ha hlast => ?_
  by_cases e : m = n
  · subst e
    rw [if_pos (beq_self_eq_true _)]
    exact q m p (by omega) (Nat.le_refl _) P ha
  · rw [if_neg (by simpa using e)]
    by_cases h1m : m > 1
    · rw [if_pos h1m]
      refine hc _ _ _ (P.lt (by omega)) (P.lt (by omega)) (P.ne (by omega) (by omega) (by omega)) ?_
      rw [decide_eq_true (ha 0 (m - 1) (by omega) (by omega))]
      exact q m p h1 hm P ha
    · rw [if_neg h1m]
      have e1 : m = 1 := by omega
      subst e1
      unfold kas_descPart
      rw [KasT.kasWp_bind]
      refine s_desc hc inj P (n - (1 + 1)) (1 + 1) (by omega) (by omega) (fun i j hij hj => ?_) fun m' h1' hm' hd => ?_
      · have : i = 0 := by omega
        have : j = 1 := by omega
        subst_vars
        exact hlast (by omega)
      · obtain ⟨P', ha'⟩ := s_rev P hm' hd
        show (kas_tail3 m' n p).kasWp cmp Q s
        unfold kas_tail3
        rw [KasT.kasWp_bind]
        exact s_asc hc inj P' (n - m') m' (by omega) (by omega) ha' fun m2 a b c _ => q m2 _ (by omega) b P' c
theorem s_place {Q : Nat → Shared → Prop} {p : Array Nat} (P : PermN n p) {k : Nat} (hk : k < n) (ha : Asc f p k) : ∀ (fu l r : Nat), l ≤ r → r ≤ k → r ≤ l + fu →
    (∀ i, i < l → f (p.getD i 0) < f (p.getD k 0)) → (∀ i, r ≤ i → i < k → f (p.getD k 0) < f (p.getD i 0)) →
    (∀ l', l' ≤ k → (∀ i, i < l' → f (p.getD i 0) < f (p.getD k 0)) → (∀ i, l' ≤ i → i < k → f (p.getD k 0) < f (p.getD i 0)) → Q l' s) → (kas_place p k fu l r).kasWp cmp Q s
  | 0, l, r, h1, h2, h3, a, b, q => q l (by omega) a (fun i h h' => b i (by omega) h')
  | fu + 1, l, r, h1, h2, h3, a, b, q => by
    unfold kas_place
    by_cases e : l ≥ r
    · rw [if_pos e]
      exact q l (by omega) a (fun i h h' => b i (by omega) h')
    · rw [if_neg e]
      refine hc _ _ _ (P.lt (by omega)) (P.lt (by omega)) (P.ne (by omega) (by omega) (by omega)) ?_
      have hne : f (p.getD k 0) ≠ f (p.getD ((l + r) / 2) 0) := fun e => P.ne (i := k) (j := (l + r) / 2) (by omega) (by omega) (by omega) (inj _ _ (P.lt (by omega)) (P.lt (by omega)) e)
      by_cases hlt : f (p.getD k 0) < f (p.getD ((l + r) / 2) 0)
      · rw [decide_eq_true hlt]
        refine s_place P hk ha fu l ((l + r) / 2) (by omega) (by omega) (by omega) a (fun i h h' => ?_) q
        by_cases e' : i = (l + r) / 2
        · subst e'; exact hlt
        · have := ha ((l + r) / 2) i (by omega) (by omega); omega
      · rw [decide_eq_false hlt]
        refine s_place P hk ha fu ((l + r) / 2 + 1) r (by omega) (by omega) (by omega) (fun i h => ?_) b q
        by_cases e' : i = (l + r) / 2
        · subst e'; omega
        · have := ha i ((l + r) / 2) (by omega) (by omega); omega
omit hc inj in
theorem s_bubble {p : Array Nat} (P : PermN n p) {k l : Nat} (hk : k < n) (hl : l ≤ k) (ha : Asc f p k) (a : ∀ i, i < l → f (p.getD i 0) < f (p.getD k 0)) (b : ∀ i, l ≤ i → i < k → f (p.getD k 0) < f (p.getD i 0)) :
    PermN n (bubble p k (k - l)) ∧ Asc f (bubble p k (k - l)) (k + 1) := by
  have hs := P.size
  have P' : PermN n (bubble p k (k - l)) := (Array.perm_iff_toList_perm.mp (bubble_perm p k (k - l))).trans P
  refine ⟨P', fun i j hij hj => ?_⟩
  have g : ∀ x, x ≤ k → (bubble p k (k - l)).getD x 0 = if x = l then p.getD k 0 else if l < x then p.getD (x - 1) 0 else p.getD x 0 := fun x hx => by
    have e := getElem?_bubble (xs := p) (src := k) (by omega) (k - l) (by omega) x
    rw [show k - (k - l) = l by omega] at e
    rw [P'.get (i := x) (by omega)] at e
    by_cases h1 : x = l
    · rw [if_pos h1] at e ⊢
      rw [P.get (i := k) hk] at e
      exact Option.some.inj e
    · rw [if_neg h1] at e ⊢
      by_cases h2 : l < x
      · rw [if_pos ⟨h2, hx⟩, P.get (i := x - 1) (by omega)] at e
        rw [if_pos h2]
        exact Option.some.inj e
      · rw [if_neg (by omega), P.get (i := x) (by omega)] at e
        rw [if_neg h2]
        exact Option.some.inj e
  rw [g i (by omega), g j (by omega)]
  by_cases i1 : i = l
  · rw [if_pos i1, if_neg (by omega), if_pos (by omega)]
    exact b _ (by omega) (by omega)
  · rw [if_neg i1]
    by_cases i2 : l < i
    · rw [if_pos i2, if_neg (by omega), if_pos (by omega)]
      exact ha _ _ (by omega) (by omega)
    · rw [if_neg i2]
      by_cases j1 : j = l
      · rw [if_pos j1]; exact a _ (by omega)
      · rw [if_neg j1]
        by_cases j2 : l < j
        · rw [if_pos j2]
          exact ha _ _ (by omega) (by omega)
        · rw [if_neg j2]; exact ha _ _ hij (by omega)
theorem s_bin {Q : Array Nat → Shared → Prop} (q : ∀ p, PermN n p → Asc f p n → Q p s) : ∀ (fu k : Nat) {p : Array Nat}, PermN n p → 1 ≤ k → k + fu = n → Asc f p k → (kas_bin fu p k).kasWp cmp Q s
  | 0, k, p, P, _, e, ha => q p P (by have : k = n := by omega
                                      rw [← this]; exact ha)
  | fu + 1, k, p, P, h1, e, ha => by
    unfold kas_bin
    rw [KasT.kasWp_bind]
    refine s_place hc inj P (by omega) ha k 0 k (by omega) (Nat.le_refl _) (by omega) (fun i h => by omega) (fun i h h' => by omega) fun l hl a b => ?_
    obtain ⟨P', ha'⟩ := s_bubble P (by omega) hl ha a b
    exact s_bin q fu (k + 1) P' (by omega) (by omega) ha'
theorem s_sort {Q : Array Nat → Shared → Prop} (h2 : 2 ≤ n) (q : ∀ p, PermN n p → Asc f p n → Q p s) : (kas_sort n).kasWp cmp Q s := by
  unfold kas_sort
  rw [KasT.kasWp_bind]
  refine s_count hc inj (permN_range n) h2 fun m p h1 hm P ha => ?_
  by_cases e : m < n
  · show (if m < n then kas_bin (n - max m 1) p (max m 1) else .ret p).kasWp cmp Q s
    rw [if_pos e, show max m 1 = m by omega]
    exact s_bin hc inj q (n - m) m P h1 (by omega) ha
  · show (if m < n then kas_bin (n - max m 1) p (max m 1) else .ret p).kasWp cmp Q s
    rw [if_neg e]
    exact q p P (by have : m = n := by omega
                    rw [← this]; exact ha)
end
end Mine
namespace Mine
open PySem.Calls PySem.Spec PySem.SeqAt
def cellP : Option Int → PyData
  | none => .none
  | some k => .int k
inductive Dt where
  | a (c : Option Int)
  | t (l : List (Option Int))
def Dt.py : Dt → PyData
  | .a c => cellP c
  | .t l => .tuple (l.map cellP)
def DtV (R : Hp) (v : Value) : Dt → Prop
  | .a c => DV v c
  | .t l => ∃ t xs, v = .ref t ∧ R t = some (.tup xs) ∧ All2 DV xs l
theorem DtV.mono {R R' : Hp} (h : TupSub R R') (v : Value) (d : Dt) (x : DtV R v d) : DtV R' v d := by
  cases d with
  | a c => exact x
  | t l => obtain ⟨t, xs, e, q, r⟩ := x; exact ⟨t, xs, e, h _ _ q, r⟩
theorem reads_cell {h : Heap} {v : Value} {c : Option Int} (x : DV v c) : Reads h v (cellP c) [] := by
  cases c with
  | none => cases x; exact .none
  | some k => obtain ⟨t, rfl⟩ := x; exact .int _ _
theorem reads_cells {h : Heap} {xs : List Value} {l : List (Option Int)} (x : All2 DV xs l) : ReadsAll h xs (l.map cellP) [] := by
  induction x with
  | nil => exact .nil
  | cons a _ ih => exact .cons (as := []) (bs := []) (reads_cell a) ih
theorem lay_cells : ∀ l : List (Option Int), PyData.canLayAll0 (l.map cellP) = true ∧ PyData.depthAll (l.map cellP) = 0
  | [] => ⟨rfl, rfl⟩
  | c :: l => by
    obtain ⟨h1, h2⟩ := lay_cells l
    have e : PyData.canLay0 (cellP c) = true ∧ PyData.depth (cellP c) = 0 := by cases c <;> exact ⟨rfl, rfl⟩
    rw [List.map_cons]
    simp only [PyData.canLayAll0, PyData.depthAll, e.1, e.2, h1, h2]
    exact ⟨rfl, rfl⟩
theorem lay_dts : ∀ l : List Dt, PyData.canLayAll0 (l.map Dt.py) = true ∧ PyData.depthAll (l.map Dt.py) ≤ 1
  | [] => ⟨rfl, by decide⟩
  | c :: l => by
    obtain ⟨h1, h2⟩ := lay_dts l
    have e : PyData.canLay0 c.py = true ∧ PyData.depth c.py ≤ 1 := by
      cases c with
      | a c => cases c <;> exact ⟨rfl, Nat.zero_le _⟩
      | t l =>
        obtain ⟨g1, g2⟩ := lay_cells l
        refine ⟨g1, ?_⟩
        show PyData.depthAll (l.map cellP) + 1 ≤ 1
        rw [g2]
        exact Nat.le_refl _
    rw [List.map_cons]
    simp only [PyData.canLayAll0, PyData.depthAll, e.1, h1]
    exact ⟨rfl, by have := e.2; omega⟩
theorem shaped_dts (l : List Dt) : shaped (.list (l.map Dt.py)) = true := by
  obtain ⟨h1, h2⟩ := lay_dts l
  unfold shaped
  simp only [PyData.canLay0, PyData.depth, h1, Bool.true_and]
  exact decide_eq_true (by omega)
section
variable {X : Fx} {n : Nat} {C : Cx} {m : Loc} {H : Hp} {env : Env}
theorem reads_dts {s : Shared} (S : St X C m H s) {xs : List Value} {l : List Dt} (x : All2 (DtV H) xs l) : ∃ as, ReadsAll s.heap xs (l.map Dt.py) as := by
  induction x with
  | nil => exact ⟨_, .nil⟩
  | cons a _ ih =>
    rename_i v d _ _ _
    obtain ⟨as, ih⟩ := ih
    cases d with
    | a c => exact ⟨_, .cons (reads_cell a) ih⟩
    | t l =>
      obtain ⟨t, xs, rfl, ht, r⟩ := a
      obtain ⟨o, ho, k, rfl⟩ := S.at ht
      exact ⟨_, .cons (.tuple ho rfl rfl (by simpa using reads_cells r)) ih⟩
theorem reads_list {s : Shared} (S : St X C m H s) {l : Addr} {xs : List Value} {ds : List Dt} (hl : H l = some (.list xs)) (x : All2 (DtV H) xs ds) : ∃ as, Reads s.heap (.ref l) (.list (ds.map Dt.py)) as := by
  obtain ⟨o, ho, k, rfl⟩ := S.at hl
  obtain ⟨as, r⟩ := reads_dts S x
  exact ⟨_, .list ho rfl rfl (by simpa using r)⟩
theorem w_neL {l l' : Addr} {xs ys : List Value} {ds : List Dt} {Q : Value → Loc → Hp → Prop} (hl : H l = some (.list xs)) (hm : H l' = some (.list ys)) (a : All2 (DtV H) xs ds) (b : All2 (DtV H) ys ds) (hn : 4 ≤ n) (q : Q (.bool false) m H) :
    W X n C (compareOp .NotEq (.ref l) (.ref l')) m H Q := w_of fun E s ao S => by
  obtain ⟨as, r⟩ := reads_list S hl a
  obtain ⟨bs, r'⟩ := reads_list S hm b
  have sh := shaped_dts ds
  refine ne_dataH r r' sh sh (by have := ao.u; rw [cLine_is]; omega) ⟨m, H, S, ?_⟩
  rw [eqv_refl _ (canLay_of_shaped sh)]
  exact q
theorem w_neB {a b : Bool} {Q : Value → Loc → Hp → Prop} (q : Q (.bool (!(a == b))) m H) : W X n C (compareOp .NotEq (.bool a) (.bool b)) m H Q := w_of fun _ _ _ S => SeqAt.RcNeAt.bool_bool a b _ _ _ _ ⟨m, H, S, q⟩
theorem w_isNotOp {e : Expr} {pos : Pos} {wh : Sem Value} {Q : Bool → Loc → Hp → Prop} (h : W X n C (isTrue e env (eval e env)) m H (fun b m₁ H₁ => Q (!b) m₁ H₁)) : W X n C (isTrue (.UnaryOp .Not e pos) env wh) m H Q := w_of fun E s a S =>
  wpAny_isTrue_Not (wpAny_mono (h.go E s a S) (fun _ _ ⟨m', H', S', z⟩ => ⟨m', H', S', z⟩) fun _ _ e => e)
theorem St.kept' {s : Shared} (S : St X C m H s) {h' : Heap} {tk : Nat} (k : ∀ b o, b ≠ C.L → s.heap.get? b = some o → h'.get? b = some o) (hn : h'.Ns C.L m) : St X C m H { s with heap := h', toks := tk } where
  g := S.g
  fr := ⟨hn, fun b o e => k b o (fun q => by subst q; exact absurd (Heap.lt_size e) (Nat.not_lt.mpr S.fr.above)) (S.fr.keep b o e), S.fr.above⟩
  bb := S.bb
  kp := fun b o e => k b o (fun q => by subst q; rw [S.nl] at e; cases e) (S.kp b o e)
  nl := S.nl
  hin := fun a ao e => let ⟨o, x, i, z⟩ := S.hin a ao e; ⟨o, k _ _ (S.lh a ao e) x, i, z⟩
  lh := S.lh
  same := S.same.to _ _
def allNews (h₀ : Heap) (L : Addr) (h : Heap) : List (Addr × Obj) := (List.range h.objs.size).filterMap fun b => match h.get? b with
  | some o => if b = L ∨ (h₀.get? b).isSome = true then none else some (b, o)
  | none => none
theorem allNews_mem {h₀ h : Heap} {L : Addr} {p : Addr × Obj} : p ∈ allNews h₀ L h ↔ h.get? p.1 = some p.2 ∧ p.1 ≠ L ∧ h₀.get? p.1 = none := by
  unfold allNews
  rw [List.mem_filterMap]
  constructor
  · rintro ⟨b, hb, e⟩
    cases hg : h.get? b with
    | none => rw [hg] at e; cases e
    | some o =>
      rw [hg] at e
      dsimp only at e
      split at e
      · cases e
      · rename_i hn
        cases e
        exact ⟨hg, fun q => hn (.inl q), by
          cases hz : h₀.get? b with
          | none => rfl
          | some z => exact absurd (.inr (by rw [hz]; rfl)) hn⟩
  · rintro ⟨e1, e2, e3⟩
    refine ⟨p.1, List.mem_range.mpr (Heap.lt_size e1), ?_⟩
    rw [e1]
    dsimp only
    rw [if_neg (by rw [e3]; rintro (q | q); exact e2 q; cases q)]
theorem St.news {s : Shared} (S : St X C m H s) : News C.hb C.L s.heap (allNews C.hb C.L s.heap) := fun _ hp => allNews_mem.mp hp
theorem St.ofNews {s : Shared} (S : St X C m H s) {h' : Heap} {tk : Nat} (F : Fr C.hb C.L h' m) (N : News C.hb C.L h' (allNews C.hb C.L s.heap)) : St X C m H { s with heap := h', toks := tk } :=
  S.kept' (fun b o hb e => by
    cases hz : C.hb.get? b with
    | none => exact (N (b, o) (allNews_mem.mpr ⟨e, hb, hz⟩)).1
    | some z => have := S.fr.keep _ _ hz; rw [e] at this; cases this; exact F.keep _ _ hz) F.ns
theorem w_max {l : Addr} {xs : List Value} {ns : List Int} {Q : Value → Loc → Hp → Prop} (hl : H l = some (.list xs)) (hi : IntsAre xs ns) (hne : 0 < ns.length) (q : ∀ M t, M ∈ ns → (∀ a, a ∈ ns → a ≤ M) → Q (.int M t) m H) : W X n C (call (.builtin "max") [.ref l]) m H Q := w_of fun E s a S =>
  max_list_N a.h S.fr S.news (S.isList hl) hi hne fun h' M t tk F N h1 h2 => ⟨m, H, S.ofNews F N, q M t h1 h2⟩
theorem getD_lt {α : Type} {l : List α} {i : Nat} {d : α} (h : i < l.length) : l[i]? = some (l.getD i d) := by simp [h]
theorem kat_tups {h : Heap} : ∀ {vs : List Value} {fs : List Value}, vs.length = fs.length → (∀ i, i < vs.length → ∃ t k xs, vs.getD i .none = .ref t ∧ h.get? t = some ⟨.type "tuple", none, .seq xs k, #[]⟩ ∧ xs[0]? = some (fs.getD i .none)) → KatTups h vs fs
  | [], [], _, _ => trivial
  | v :: vs, f :: fs, e, hv => by
    obtain ⟨t, k, xs, e1, e2, e3⟩ := hv 0 (Nat.zero_lt_succ _)
    refine ⟨⟨t, _, xs, k, e1, e2, rfl, rfl, e3⟩, kat_tups (Nat.succ.inj e) fun i hi => ?_⟩
    have := hv (i + 1) (Nat.succ_lt_succ hi)
    simpa using this
  | [], _ :: _, e, _ => nomatch e
  | _ :: _, [], e, _ => nomatch e
theorem one_sorted {E : Value → Shared → Prop} {A : Around} {prog : Program} {w : World} {s : Shared} {l : Addr} {vs : List Value} {Q : Value → Shared → Prop} (hl : s.heap.IsList l vs.toArray) (h2 : vs.length < 2)
    (h : ∀ D h' c, s.heap.objs.size ≤ D → Keep s.heap h' → h'.get? D = some (seqObj "list" vs.toArray c) → Q (.ref D) { s with heap := h' }) : wpAny (model prog w) A (call (.builtin "sorted") [.ref l]) Q E s := by
  refine Calls.call_function_entry kind_sorted plain_sorted entry_sorted (args_sorted1 _) ?_
  unfold Builtin.«sorted»
  refine wpAny_bind (m := checkCount "sorted" 1 1 _) (wpAny_pure ?_)
  refine wpAny_bind (collect_list hl ?_ (by rw [sizeLine_eq]; omega))
  refine wpAny_bind (wpAny_newList ?_ (by rw [sizeLine_eq]; omega))
  generalize hh1 : ((s.heap.push (seqObj "list" #[] 0)).update s.heap.objs.size (Obj.mapSeq (· ++ vs.toArray))) = h1
  have hsz : h1.objs.size = s.heap.objs.size + 1 := by rw [← hh1, Heap.size_update, size_push']
  have kp1 : Keep s.heap h1 := fun b o e => by
    have hlt := Heap.lt_size e
    rw [← hh1, Heap.get?_update_ne _ _ _ _ (Nat.ne_of_lt hlt), Heap.get?_push_ne _ _ _ (Nat.ne_of_lt hlt)]; exact e
  show wpAny _ _ _ _ _ { s with heap := h1.push (seqObj "list" vs.toArray 0) }
  have hoL : (h1.push (seqObj "list" vs.toArray 0)).get? h1.objs.size = some (seqObj "list" vs.toArray 0) := Heap.get?_push_size _ rfl
  refine wpAny_bind (wpAny_holding (wpAny_call_entry slot_list_sort ⟨_, hoL, rfl⟩ entry_list_sort ?body (args_list_sort _)))
  case body =>
    rw [list_sort_plain]
    refine wpAny_bind (listItems_at hoL rfl ?_)
    refine wpAny_bind (listUpdate_at hoL rfl ?_ (by rw [List.size_toArray, sizeLine_eq]; omega) (Nat.zero_le _))
    generalize hh2 : (h1.push (seqObj "list" vs.toArray 0)).update h1.objs.size (Obj.mapSeq fun _ => (#[] : Array Value)) = hp2
    obtain ⟨e1, ho1⟩ : ∃ e1, hp2.get? h1.objs.size = some (seqObj "list" #[] e1) := by rw [← hh2]; exact ⟨_, get?_update_seq hoL fun _ => #[]⟩
    have sz2 : hp2.objs.size = h1.objs.size + 1 := by rw [← hh2, Heap.size_update, Heap.size_push]
    have kp2 : Keep s.heap hp2 := fun b o e => by
      have hlt := Heap.lt_size e
      rw [← hh2, Heap.get?_update_ne _ _ _ _ (Nat.ne_of_lt (by rw [hsz]; exact Nat.lt_succ_of_lt hlt))]
      exact Heap.get?_push_of_some _ (kp1 b o e)
    refine wpAny_bind (seqEpoch_at ho1 rfl ?_)
    refine wpAny_bind (wpAny_newTuple ?_ (by show vs.length ≤ _; rw [sizeLine_eq]; omega))
    refine wpAny_bind (wpAny_newList ?_ (Nat.zero_le _))
    refine wpAny_holding ?_
    show wpAny (model prog w) A.in1.in1 _ _ _ { s with heap := (hp2.push (seqObj "tuple" vs.toArray 0)).push (seqObj "list" #[] 0) }
    dsimp only
    have hn2 : vs.toArray.size < 2 := by rw [List.size_toArray]; exact h2
    rw [if_pos hn2, if_pos hn2]
    refine wpAny_bind (wpAny_pure ?_)
    refine wpAny_bind (wpAny_pure ?_)
    have ho3 : ((hp2.push (seqObj "tuple" vs.toArray 0)).push (seqObj "list" #[] 0)).get? h1.objs.size = some (seqObj "list" #[] e1) := Heap.get?_push_of_some _ (Heap.get?_push_of_some _ ho1)
    have kp3 : Keep s.heap ((hp2.push (seqObj "tuple" vs.toArray 0)).push (seqObj "list" #[] 0)) := fun b o e => Heap.get?_push_of_some _ (Heap.get?_push_of_some _ (kp2 b o e))
    generalize ((hp2.push (seqObj "tuple" vs.toArray 0)).push (seqObj "list" #[] 0)) = hp3 at *
    have hzip : ((vs.toArray.zip vs.toArray).map (·.2)) = vs.toArray := by
      apply Array.toList_inj.mp
      simp [List.map_snd_zip]
    refine wpAny_bind (seqEpoch_at ho3 rfl ?_)
    have hout : (arrOf (SortSt.mk' general' (vs.toArray.zip vs.toArray) #[] 7 none)).map (·.2) = vs.toArray := hzip
    dsimp only
    rw [hout]
    refine wpAny_bind (listUpdate_at ho3 rfl ?_ (Nat.zero_le _) (by rw [List.size_toArray, sizeLine_eq]; omega))
    simp only [bne_self_eq_false, Bool.false_eq_true, if_false]
    refine wpAny_pure ⟨_, rfl, wpAny_pure ⟨_, rfl, ?_⟩⟩
    obtain ⟨c2, hc2⟩ : ∃ c2, (hp3.update h1.objs.size (Obj.mapSeq fun _ => vs.toArray)).get? h1.objs.size = some (seqObj "list" vs.toArray c2) := ⟨_, get?_update_seq ho3 fun _ => vs.toArray⟩
    exact h h1.objs.size _ c2 (by omega) (fun b o e => by
      have hlt := Heap.lt_size e
      rw [Heap.get?_update_ne _ _ _ _ (Nat.ne_of_lt (by rw [hsz]; exact Nat.lt_succ_of_lt hlt))]
      exact kp3 b o e) hc2
end
end Mine
namespace Mine
open PySem.Calls PySem.Spec PySem.SeqAt
section
variable {X : Fx} {n : Nat} {C : Cx} {m : Loc} {H : Hp} {env : Env}
theorem w_sortT {l : Addr} {vs : List Value} {Q : Value → Loc → Hp → Prop} (f : Nat → Int) (hl : H l = some (.list vs)) (h64 : vs.length < 64)
    (hv : ∀ i, i < vs.length → ∃ t k r, vs.getD i .none = .ref t ∧ H t = some (.tup (.int (f i) k :: r))) (inj : ∀ i j, i < vs.length → j < vs.length → f i = f j → i = j)
    (q : ∀ D p, PermN vs.length p → Asc f p vs.length → H D = none → Q (.ref D) m (upd H D (.list (p.toList.map fun i => vs.getD i .none)))) : W X n C (call (.builtin "sorted") [.ref l]) m H Q := w_of fun E s a S => by
  have hls := S.isList hl
  by_cases h2 : 2 ≤ vs.length
  · refine kat_sorted S.fr S.news hls h2 h64 fun D e1 h' F N lt => ?_
    have S' : St X C m H { s with heap := h', toks := s.toks } := S.ofNews F fun p hp => N p (List.mem_cons_of_mem _ hp)
    have old : ∀ b o, b ≠ C.L → s.heap.get? b = some o → C.hb.get? b = none → b < D := fun b o hb e e' => lt (b, o) (allNews_mem.mpr ⟨e, hb, e'⟩)
    obtain ⟨g1, g2, g3⟩ := N _ (List.mem_cons_self ..)
    have HD : H D = none := by
      cases hq : H D with
      | none => rfl
      | some ao =>
        obtain ⟨o, ho, _⟩ := S.at hq
        exact absurd (old D o g2 ho g3) (Nat.lt_irrefl _)
    have bD : C.h₀.get? D = none := by
      cases hq : C.h₀.get? D with
      | none => rfl
      | some o => exact absurd (old D o g2 (S.kp _ _ hq) g3) (Nat.lt_irrefl _)
    have tup : ∀ i, i < vs.length → ∃ t k r c, vs.getD i .none = .ref t ∧ h'.get? t = some { cls := .type "tuple", data := .seq (Value.int (f i) k :: r).toArray c } := fun i hi => by
      obtain ⟨t, k, r, e1, e2⟩ := hv i hi
      obtain ⟨o, ho, c, rfl⟩ := S'.at e2
      exact ⟨t, k, r, c, e1, ho⟩
    have hfi : ∀ i, i < vs.length → ∃ k, (match vs.getD i .none with | .ref t => (match h'.get? t with | some ⟨_, _, .seq xs _, _⟩ => xs.getD 0 .none | _ => .none) | _ => .none) = Value.int (f i) k := fun i hi => by
      obtain ⟨t, k, r, c, e1, e2⟩ := tup i hi
      rw [e1]
      dsimp only
      rw [e2]
      exact ⟨k, rfl⟩
    refine kat_kind (fs := vs.map fun v => match v with | .ref t => (match h'.get? t with | some ⟨_, _, .seq xs _, _⟩ => xs.getD 0 .none | _ => .none) | _ => .none) (T := .type "int") (kat_tups (by simp) fun i hi => ?_) (by simpa using Nat.lt_of_lt_of_le (by decide) h2) (fun v hv' => ?_) (by decide) ?_
    · obtain ⟨t, k, r, c, e1, e2⟩ := tup i hi
      refine ⟨t, c, _, e1, e2, ?_⟩
      rw [List.getD_eq_getElem?_getD, List.getElem?_map, getD_lt (d := .none) hi, e1]
      dsimp only [Option.map_some, Option.getD_some]
      rw [e2]
      simp
    · obtain ⟨i, hi, rfl⟩ := List.getElem_of_mem hv'
      have hi' : i < vs.length := by simpa using hi
      obtain ⟨k, e⟩ := hfi i hi'
      have e0 : vs.getD i Value.none = vs[i] := by simp [hi']
      rw [e0] at e
      rw [List.getElem_map, e]
      exact Looks.of_pure rfl
    · rw [show (Value.type "int" != Value.type "tuple") = true by decide]
      refine s_sort (f := f) (n := vs.length) (fun i j Cq hi hj hij hq => ?_) inj h2 fun p P A' => ?_
      · obtain ⟨t, k, r, c, e1, e2⟩ := tup i hi
        obtain ⟨t', k', r', c', e1', e2'⟩ := tup j hj
        show wpAny _ _ (keyLt' (tuples' true) (vs.getD i .none) (vs.getD j .none)) _ _ _
        rw [e1, e1']
        refine kat_lt e2 rfl e2' rfl ?_
        show KatLex _ _ _ _ _ _ ((Value.int (f i) k, Value.int (f j) k') :: _) 0 _
        refine kat_cons (wpAny_eqBool_int ?_)
        have hne : f i ≠ f j := fun e => hij (inj i j hi hj e)
        rw [beq_eq_false_iff_ne.mpr hne]
        exact kat_no (oneLt_int hq)
      · refine KasFin.intro F N (.head fun p hp => Nat.ne_of_lt (lt p hp)) fun h'' c F2 N2 => ?_
        have S'' : St X C m H { s with heap := h'', toks := s.toks } := S.ofNews F2 fun p hp => N2 p (List.mem_cons_of_mem _ hp)
        obtain ⟨k1, k2, k3⟩ := N2 _ (List.mem_cons_self ..)
        exact ⟨m, _, S''.put (ao := .list (p.toList.map fun i => vs.getD i .none)) k1 ⟨c, rfl⟩ bD g2, q D p P A' HD⟩
  · refine one_sorted hls (by omega) fun D h' c hD kp g => ?_
    have S' : St X C m H { s with heap := h', toks := s.toks } := S.kept kp
    have e : ((List.toArray (List.range vs.length)).toList.map fun i => vs.getD i Value.none) = vs := by
      apply List.ext_getElem (by simp)
      intro i h1 h2
      simp [h2]
    have z := q D _ (permN_range _) (fun i j hij hj => by omega) (S.fresh hD)
    rw [e] at z
    exact ⟨m, _, S'.put (ao := .list vs) g ⟨c, rfl⟩ (S.none_of_size hD) (S.ne_of_size hD), z⟩
end
end Mine
namespace Mine
structure Rc where
  t : Int
  a : Int
  w : Int
  v : Int
def Rc.r (x : Rc) : Rec := ⟨x.t, x.a, x.w⟩
def RcIs (R : Hp) (v : Value) (r : Rc) : Prop := ∃ t tt kv tv, v = .ref t ∧ R t = some (.tup [.int r.t tt, kv, .int r.v tv]) ∧ KindIs R kv (r.a, r.w)
theorem RcIs.mono {R R' : Hp} (h : TupSub R R') (v : Value) (r : Rc) (x : RcIs R v r) : RcIs R' v r := let ⟨t, tt, kv, tv, e, q, k⟩ := x; ⟨t, tt, kv, tv, e, h _ _ q, k.mono h⟩
def Full (M : Int → Int) (recs : List Rc) : Prop := ∀ r ∈ recs, ∀ k, r.t / 4 ≤ k → k < (r.t + r.w) / 4 → M k = r.v
def RcOk (M : Int → Int) (r : Rc) : Prop := M (r.a / 4) = r.w ∧ r.w % 4 = 0 ∧ 0 ≤ r.w ∧ r.w ≤ 44 ∧ 0 ≤ r.v ∧ r.v < 4294967296
def fw (M : Int → Int) (a : Int) (i : Nat) (v : Int) : Int → Int := fun k => if a / 4 ≤ k ∧ k < a / 4 + i then v else M k
theorem fw_zero (M : Int → Int) (a v : Int) : fw M a 0 v = M := by funext k; unfold fw; rw [if_neg]; omega
theorem fw_succ (M : Int → Int) (a v : Int) (i : Nat) (ha : a % 4 = 0) (h0 : 0 ≤ v) (h1 : v < 4294967296) : wr (fw M a i v) (a + (i : Int) * 4) v = fw M a (i + 1) v := by
  funext k
  unfold wr fw
  have e : (a + (i : Int) * 4) / 4 = a / 4 + i := by omega
  rw [e, show v % 4294967296 = v by omega]
  by_cases h : k = a / 4 + i
  · rw [if_pos h, if_pos (by omega)]
  · rw [if_neg h]
    by_cases h' : a / 4 ≤ k ∧ k < a / 4 + i
    · rw [if_pos h', if_pos (by omega)]
    · rw [if_neg h', if_neg (by omega)]
theorem fw_out {M : Int → Int} {a v k : Int} {i : Nat} (h : k < a / 4 ∨ a / 4 + i ≤ k) : fw M a i v k = M k := by unfold fw; rw [if_neg (by omega)]
theorem fw_in {M : Int → Int} {a v k : Int} {i : Nat} (h : a / 4 ≤ k) (h' : k < a / 4 + i) : fw M a i v k = v := by unfold fw; rw [if_pos ⟨h, h'⟩]
theorem rc_block {M F Ls B st lim} (I : Inv M F Ls B st lim) {a d : Int} (p : (a, d) ∈ usedOf B) : ∃ b ∈ B, b.a = a ∧ b.d = some d ∧ OkA b.a ∧ b.n = bsz (M (d / 4)) ∧ b.a + b.n ≤ 8192 ∧ 16 ≤ b.n ∧ b.n % 16 = 0 := by
  obtain ⟨b, hb, h1, h2⟩ := mem_usedOf.mp p
  have ob := I.ok b hb
  have hh := ob.h
  unfold Head at hh
  have h2' : b.d = some d := h2
  rw [h2'] at hh
  exact ⟨b, hb, h1, h2', ob.a, hh.2.2, ob.l, ob.n, ob.m⟩
/-- what an allocation and the writing of its record leave -/
theorem filled {M M' F F' Ls Ls' B pre b suf st lim d w v} (I : Inv M F Ls B st lim) (eB : B = pre ++ b :: suf) (hb : b.d = none) (hw : M (d / 4) = w) (w4 : w % 4 = 0) (w0 : 0 ≤ w) (hle : bsz w ≤ b.n)
    (K : Made M B pre b suf (bsz w) d M' F' Ls' st lim) {recs : List Rc} (p : (recs.map fun r => r.r.key).Perm (usedOf B)) (mk : Marks M B) (fu : Full M recs) (ok : ∀ r ∈ recs, RcOk M r) :
    Inv (fw M' (b.a + 8) (w / 4).toNat v) F' Ls' (pre ++ ⟨b.a, bsz w, some d⟩ :: ((if b.n - bsz w > 0 then [⟨b.a + bsz w, b.n - bsz w, none⟩] else []) ++ suf)) st lim ∧
    Marks (fw M' (b.a + 8) (w / 4).toNat v) (pre ++ ⟨b.a, bsz w, some d⟩ :: ((if b.n - bsz w > 0 then [⟨b.a + bsz w, b.n - bsz w, none⟩] else []) ++ suf)) ∧
    Full (fw M' (b.a + 8) (w / 4).toNat v) (recs ++ [⟨b.a + 8, d, w, v⟩]) ∧ (∀ k, k < 256 → fw M' (b.a + 8) (w / 4).toNat v k = M k) := by
  have obb := I.ok b (by rw [eB]; simp)
  obtain ⟨o1, o2, o3⟩ := obb.a
  obtain ⟨z1, z2, z3, z4⟩ := bsz_ok w0
  have mk' := K.marks eB I.oka z1 mk
  have KI := K.inv
  have kl := K.low
  have ku := K.used
  generalize hB' : (pre ++ ⟨b.a, bsz w, some d⟩ :: ((if b.n - bsz w > 0 then [⟨b.a + bsz w, b.n - bsz w, none⟩] else []) ++ suf)) = B' at *
  have hnb : (⟨b.a, bsz w, some d⟩ : Bk) ∈ B' := by rw [← hB']; simp
  have two : ∀ c ∈ B', c = ⟨b.a, bsz w, some d⟩ ∨ c.a + c.n ≤ b.a ∨ b.a + bsz w ≤ c.a := fun c hc => by
    rcases tiles_two KI.ti KI.pos hc hnb with h | h | h
    · exact .inl h
    · exact .inr (.inl h)
    · exact .inr (.inr h)
  refine ⟨KI.frame (fun k hk => fw_out (by omega)) (fun c hc => ?_) (fun c hc hd => ?_), fun c hc hd => ?_, fun r hr k h1 h2 => ?_, fun k hk => (fw_out (by omega)).trans (kl k hk)⟩
  · obtain ⟨c1, c2, c3⟩ := (KI.ok c hc).a
    have cn := (KI.ok c hc).n
    rcases two c hc with rfl | h | h
    · exact fw_out (.inl (by dsimp only; omega))
    · exact fw_out (.inl (by omega))
    · exact fw_out (.inr (by omega))
  · obtain ⟨c1, c2, c3⟩ := (KI.ok c hc).a
    have cn := (KI.ok c hc).n
    rcases two c hc with rfl | h | h
    · cases hd
    · exact fw_out (.inl (by omega))
    · exact fw_out (.inr (by omega))
  · obtain ⟨c1, c2, c3⟩ := (KI.ok c hc).a
    have cn := (KI.ok c hc).n
    rw [← mk' c hc hd]
    rcases two c hc with rfl | h | h
    · exact fw_out (.inl (by dsimp only; omega))
    · exact fw_out (.inl (by omega))
    · exact fw_out (.inr (by omega))
  · rcases mem_snoc.mp hr with hr | rfl
    · obtain ⟨c, hc, e1, e2, ⟨e3, e4, e5⟩, e6, e7, e8, e9⟩ := rc_block I (p.mem_iff.mp (List.mem_map.mpr ⟨r, hr, rfl⟩))
      obtain ⟨k1, k2, k3, k4, k5⟩ := ok r hr
      obtain ⟨y1, y2, y3, y4⟩ := bsz_ok k3
      have e1' : c.a = r.t - 8 := e1
      have e6' : c.n = bsz r.w := by rw [← k1]; exact e6
      have hk : M' k = M k := ku c hc (by rw [e2]; simp) k (by omega) (by rw [e6']; omega)
      rcases tiles_two I.ti I.pos hc (show b ∈ B by rw [eB]; simp) with h | h | h
      · rw [h, hb] at e2; cases e2
      · rw [fw_out (.inl (by rw [e6'] at h; omega)), hk]; exact fu r hr k h1 h2
      · rw [fw_out (.inr (by omega)), hk]; exact fu r hr k h1 h2
    · exact fw_in h1 (by dsimp only at h1 h2; omega)
theorem Full.nil (M : Int → Int) : Full M [] := fun _ h => nomatch h
/-- what a sweep leaves of the words -/
theorem swept_full {M M₁ M₂ F F₂ Ls Ls₂ B B' st lim} (I : Inv M F Ls B st lim) {recs recs' : List Rc} (p : (recs.map fun r => r.r.key).Perm (usedOf B)) (sl : recs'.Sublist recs) (mk : Marked M (recs'.map Rc.r) M₁) (S : Swept M₁ B M₂ F₂ Ls₂ B' st lim)
    (fu : Full M recs) (ok : ∀ r ∈ recs, RcOk M r) : Full M₂ recs' := fun r hr k h1 h2 => by
  have hr' := sl.subset hr
  obtain ⟨c, hc, e1, e2, ⟨e3, e4, e5⟩, e6, e7, e8, e9⟩ := rc_block I (p.mem_iff.mp (List.mem_map.mpr ⟨r, hr', rfl⟩))
  obtain ⟨k1, k2, k3, k4, k5⟩ := ok r hr'
  obtain ⟨y1, y2, y3, y4⟩ := bsz_ok k3
  have e1' : c.a = r.t - 8 := e1
  have e6' : c.n = bsz r.w := by rw [← k1]; exact e6
  have hkp : kp M₁ c := ⟨by rw [e2]; simp, by
    have := mk.m r.r (List.mem_map.mpr ⟨r, hr, rfl⟩)
    rw [show (c.a + 4) / 4 = (r.r.t - 4) / 4 by show _ = (r.t - 4) / 4; omega]
    exact this⟩
  rw [S.body c hc hkp k (by omega) (by rw [e6']; omega), mk.k k fun q hq => ?_]
  · exact fu r hr' k h1 h2
  · obtain ⟨q', hq', rfl⟩ := List.mem_map.mp hq
    show k ≠ (q'.t - 4) / 4
    obtain ⟨c', hc', f1, f2, ⟨f3, f4, f5⟩, f6, f7, f8, f9⟩ := rc_block I (p.mem_iff.mp (List.mem_map.mpr ⟨q', sl.subset hq', rfl⟩))
    have f1' : c'.a = q'.t - 8 := f1
    rcases tiles_two I.ti I.pos hc hc' with h | h | h
    · subst h; omega
    · omega
    · omega
def used3 (B : List Bk) : List (Int × Int × Int) := B.filterMap fun b => b.d.map fun d => (b.a + 8, d, b.n)
def Rc.trip (r : Rc) : Int × Int × Int := (r.t, r.a, bsz r.w)
theorem used3_eq {M : Int → Int} : ∀ {B : List Bk}, (∀ b ∈ B, OkB M b) → used3 B = (usedOf B).map fun p => (p.1 + 8, p.2, bsz (M (p.2 / 4)))
  | [], _ => rfl
  | b :: B, h => by
    have ih := used3_eq (M := M) (B := B) fun c hc => h c (List.mem_cons_of_mem _ hc)
    have hb := (h b (List.mem_cons_self ..)).h
    unfold Head at hb
    unfold used3 usedOf at ih ⊢
    rw [List.filterMap_cons, List.filterMap_cons]
    cases hd : b.d with
    | none => exact ih
    | some d =>
      rw [hd] at hb
      dsimp only [Option.map_some]
      rw [List.map_cons, ih, ← hb.2.2]
theorem perm_sorted {l r : List (Int × Int × Int)} (p : l.Perm r) (hl : l.Pairwise fun x y => x.1 < y.1) (hr : r.Pairwise fun x y => x.1 < y.1) : l = r := by
  induction l generalizing r with
  | nil => exact (List.nil_perm.mp p).symm
  | cons x l ih =>
    cases r with
    | nil => exact absurd p (by simp)
    | cons y r =>
      have h1 := List.pairwise_cons.mp hl
      have h2 := List.pairwise_cons.mp hr
      have e : x = y := by
        rcases List.mem_cons.mp (p.mem_iff.mp (List.mem_cons_self ..)) with e | hx
        · exact e
        · rcases List.mem_cons.mp (p.mem_iff.mpr (List.mem_cons_self ..)) with e | hy
          · exact e.symm
          · have := h1.1 y hy; have := h2.1 x hx; omega
      subst e
      rw [ih (List.perm_cons x |>.mp p) h1.2 h2.2]
theorem used3_sorted : ∀ {B : List Bk} {st lim : Int}, Tiles B st lim → (∀ c ∈ B, 0 < c.n) → (used3 B).Pairwise fun x y => x.1 < y.1
  | [], _, _, _, _ => .nil
  | b :: B, st, lim, t, h => by
    have ih := used3_sorted t.2 fun c hc => h c (List.mem_cons_of_mem _ hc)
    have bd := (tiles_bd t.2 fun c hc => h c (List.mem_cons_of_mem _ hc)).2
    unfold used3 at ih ⊢
    rw [List.filterMap_cons]
    cases hd : b.d with
    | none => exact ih
    | some d =>
      refine List.pairwise_cons.mpr ⟨fun z hz => ?_, ih⟩
      obtain ⟨c, hc, e⟩ := List.mem_filterMap.mp hz
      cases hcd : c.d with
      | none => rw [hcd] at e; cases e
      | some d' =>
        rw [hcd] at e
        cases e
        have h1 := bd c hc
        have h2 := h b (List.mem_cons_self ..)
        have h3 := t.1
        dsimp only
        omega
/-- the sorted records are the used blocks in order -/
theorem sorted_used {M F Ls B st lim} (I : Inv M F Ls B st lim) {recs : List Rc} (p : (recs.map fun r => r.r.key).Perm (usedOf B)) (ok : ∀ r ∈ recs, RcOk M r) {s : List Rc} (ps : s.Perm recs) (o : s.Pairwise fun x y => x.t < y.t) : s.map Rc.trip = used3 B := by
  refine perm_sorted ?_ (List.pairwise_map.mpr o) (used3_sorted I.ti I.pos)
  rw [used3_eq I.ok]
  refine (ps.map _).trans ?_
  have e : recs.map Rc.trip = (recs.map fun r => r.r.key).map fun p => (p.1 + 8, p.2, bsz (M (p.2 / 4))) := by
    rw [List.map_map]
    refine List.map_congr_left fun r hr => ?_
    show (r.t, r.a, bsz r.w) = (r.t - 8 + 8, r.a, bsz (M (r.a / 4)))
    rw [(ok r hr).1, show r.t - 8 + 8 = r.t by omega]
  rw [e]
  exact p.map _
theorem used3_snoc_free {A : List Bk} {b : Bk} (h : b.d = none) : used3 (A ++ [b]) = used3 A := by simp [used3, h]
theorem used3_snoc_used {A : List Bk} {b : Bk} {d : Int} (h : b.d = some d) : used3 (A ++ [b]) = used3 A ++ [(b.a + 8, d, b.n)] := by simp [used3, h]
def trD (t : Int × Int × Int) : Dt := .t [some t.1, some t.2.1, some t.2.2]
theorem rc_inj {M F Ls B st lim} (I : Inv M F Ls B st lim) {recs : List Rc} (p : (recs.map fun r => r.r.key).Perm (usedOf B)) : ∀ i j, i < recs.length → j < recs.length → (recs.getD i ⟨0, 0, 0, 0⟩).t = (recs.getD j ⟨0, 0, 0, 0⟩).t → i = j := fun i j hi hj e => by
  have nd : (recs.map fun r => r.r.key).Nodup := p.nodup_iff.mpr (usedOf_nodup I.ti I.pos)
  have hm : ∀ k, k < recs.length → ((recs.getD k ⟨0, 0, 0, 0⟩).r.key) ∈ usedOf B := fun k hk => p.mem_iff.mp (List.mem_map.mpr ⟨recs.getD k ⟨0, 0, 0, 0⟩, by rw [List.getD_eq_getElem?_getD, List.getElem?_eq_getElem hk]; exact List.getElem_mem _, rfl⟩)
  obtain ⟨b, hb, b1, b2⟩ := mem_usedOf.mp (hm i hi)
  obtain ⟨c, hc, c1, c2⟩ := mem_usedOf.mp (hm j hj)
  have b1' : b.a = (recs.getD i ⟨0, 0, 0, 0⟩).t - 8 := b1
  have c1' : c.a = (recs.getD j ⟨0, 0, 0, 0⟩).t - 8 := c1
  have hbc : b = c := by
    have hbn := I.pos b hb
    have hcn := I.pos c hc
    rcases tiles_two I.ti I.pos hb hc with h | h | h
    · exact h
    · omega
    · omega
  subst hbc
  have ek : (recs.getD i ⟨0, 0, 0, 0⟩).r.key = (recs.getD j ⟨0, 0, 0, 0⟩).r.key := by
    have e2 : (recs.getD i ⟨0, 0, 0, 0⟩).a = (recs.getD j ⟨0, 0, 0, 0⟩).a := by
      have := b2.symm.trans c2
      exact Option.some.inj this
    show ((recs.getD i ⟨0, 0, 0, 0⟩).t - 8, (recs.getD i ⟨0, 0, 0, 0⟩).a) = ((recs.getD j ⟨0, 0, 0, 0⟩).t - 8, (recs.getD j ⟨0, 0, 0, 0⟩).a)
    rw [e, e2]
  refine (List.getElem?_inj (by simpa using hi) nd).mp ?_
  rw [List.getElem?_map, List.getElem?_map, getD_lt (d := ⟨0, 0, 0, 0⟩) hi, getD_lt (d := ⟨0, 0, 0, 0⟩) hj]
  exact congrArg some ek
end Mine
namespace Mine
theorem PermN.mem {n : Nat} {p : Array Nat} (h : PermN n p) {i : Nat} (hi : i ∈ p.toList) : i < n := by simpa using h.mem_iff.mp hi
theorem all2_pick {α β : Type} {F : α → β → Prop} {l : List α} {r : List β} (h : All2 F l r) (d : α) (d' : β) : ∀ is : List Nat, (∀ i ∈ is, i < l.length) → All2 F (is.map fun i => l.getD i d) (is.map fun i => r.getD i d')
  | [], _ => .nil
  | i :: is, hi => by
    refine .cons ?_ (all2_pick h d d' is fun j hj => hi j (List.mem_cons_of_mem _ hj))
    obtain ⟨b, e, f⟩ := h.get (getD_lt (d := d) (hi i (List.mem_cons_self ..)))
    have e' : r.getD i d' = b := by rw [List.getD_eq_getElem?_getD, e]; rfl
    show F (l.getD i d) (r.getD i d')
    rw [e']
    exact f
theorem map_range {α : Type} (r : List α) (d : α) : ((List.range r.length).map fun i => r.getD i d) = r := by
  apply List.ext_getElem (by simp)
  intro i h1 h2
  simp [h2]
theorem pick_perm {α : Type} {r : List α} (d : α) {p : Array Nat} (h : PermN r.length p) : (p.toList.map fun i => r.getD i d).Perm r := by
  have := h.map fun i => r.getD i d
  rwa [map_range] at this
theorem pick_sorted {α : Type} {r : List α} {d : α} {g : α → Int} {p : Array Nat} {n : Nat} (P : PermN n p) (h : Asc (fun i => g (r.getD i d)) p n) : (p.toList.map fun i => r.getD i d).Pairwise fun x y => g x < g y := by
  rw [List.pairwise_map, List.pairwise_iff_getElem]
  intro i j hi hj hij
  have hs := P.size
  have hi' : i < n := by simpa [hs] using hi
  have hj' : j < n := by simpa [hs] using hj
  have e1 : p.toList[i] = p.getD i 0 := by
    have := P.get hi'
    rw [← Array.getElem?_toList, List.getElem?_eq_getElem hi] at this
    exact Option.some.inj this
  have e2 : p.toList[j] = p.getD j 0 := by
    have := P.get hj'
    rw [← Array.getElem?_toList, List.getElem?_eq_getElem hj] at this
    exact Option.some.inj this
  rw [e1, e2]
  exact h i j hij hj'
theorem flat_rep (n : Nat) (v : Value) : (List.replicate n [v]).flatten = List.replicate n v := by
  induction n with
  | zero => rfl
  | succ n ih => rw [List.replicate_succ, List.flatten_cons, ih]; rfl
theorem rep_dt {R : Hp} {k : Int} {t : Tok} : ∀ n, All2 (DtV R) (List.replicate n (Value.int k t)) (List.replicate n (Dt.a (some k)))
  | 0 => .nil
  | n + 1 => .cons ⟨t, rfl⟩ (rep_dt n)
end Mine
namespace Mine
structure L1 (CM CH : Addr) (y : Yd) (hd cl c kl : Addr) (ks : List Value) (kinds : List (Int × Int)) (lim : Int) (l : Addr) (rs : List Value) (recs : List Rc) (R : Hp) (M : Int → Int) (F : List Int) (Ls : Nat → List Int) (B : List Bk) (H : Hp) : Prop where
  s : HS CM CH y R M F 1024 lim H
  inv : Inv M F Ls B 1024 lim
  hh : HandIs hd cl R
  hc : R c = some (.cell (some (.ref hd)))
  nh : l ≠ hd
  nl : l ≠ cl
  nc : l ≠ c
  nk : l ≠ kl
  hk : R kl = some (.list ks)
  al : All2 (KindIs R) ks kinds
  hl : R l = some (.list rs)
  ar : All2 (RcIs R) rs recs
  pr : (recs.map fun r => r.r.key).Perm (usedOf B)
  km : ∀ r ∈ recs, (r.a, r.w) ∈ kinds ∧ 0 ≤ r.v ∧ r.v < 1000
  fu : Full M recs
  mz : Marks M B
  ko : KindsOk M kinds
section
variable {CM CH : Addr} {y : Yd} {hd cl c kl : Addr} {ks : List Value} {kinds : List (Int × Int)} {lim : Int} {l : Addr} {rs : List Value} {recs : List Rc} {R : Hp} {M : Int → Int} {F : List Int} {Ls : Nat → List Int} {B : List Bk} {H : Hp}
theorem L1.ok (J : L1 CM CH y hd cl c kl ks kinds lim l rs recs R M F Ls B H) : ∀ r ∈ recs, RcOk M r := fun r hr => by
  obtain ⟨h1, h2, h3⟩ := J.km r hr
  obtain ⟨k1, k2, k3, k4, k5⟩ := J.ko _ h1
  exact ⟨k2, k3, k4, k5, h2, by omega⟩
/-- another heap, the words as they were, nothing lost but the hand turned -/
theorem L1.to {R' : Hp} {H' : Hp} (J : L1 CM CH y hd cl c kl ks kinds lim l rs recs R M F Ls B H) (S : HS CM CH y R' M F 1024 lim H') (hh : HandIs hd cl R') (sx : SubX hd R R') (nch : c ≠ hd) (nkh : kl ≠ hd) : L1 CM CH y hd cl c kl ks kinds lim l rs recs R' M F Ls B H' := by
  have nth : ∀ xs, R hd ≠ some (.tup xs) := fun xs => by obtain ⟨L, e⟩ := J.hh.is; rw [e]; intro q; cases q
  exact ⟨S, J.inv, hh, sx.at J.hc nch, J.nh, J.nl, J.nc, J.nk, sx.at J.hk nkh, J.al.mono (KindIs.mono (sx.tup nth)), sx.at J.hl J.nh, J.ar.mono (RcIs.mono (sx.tup nth)), J.pr, J.km, J.fu, J.mz, J.ko⟩
end
def fsz (B : List Bk) : List Int := (frees B).map (·.n)
theorem fsz_free {A : List Bk} {b : Bk} (h : b.d = none) : fsz (A ++ [b]) = fsz A ++ [b.n] := by unfold fsz; rw [frees_snoc_free h, List.map_append]; rfl
theorem fsz_used {A : List Bk} {b : Bk} (h : b.d ≠ none) : fsz (A ++ [b]) = fsz A := by unfold fsz; rw [frees_snoc_used h]
theorem mem_fsz {B : List Bk} {x : Int} : x ∈ fsz B ↔ ∃ b ∈ B, b.d = none ∧ b.n = x := by
  unfold fsz
  rw [List.mem_map]
  constructor
  · rintro ⟨b, hb, rfl⟩
    obtain ⟨h1, h2⟩ := mem_frees.mp hb
    exact ⟨b, h1, h2, rfl⟩
  · rintro ⟨b, h1, h2, rfl⟩
    exact ⟨b, mem_frees.mpr ⟨h1, h2⟩, rfl⟩
theorem ints_snoc {n : Int} {t : Tok} {vs : List Value} {ns : List Int} (h : IntsAre vs ns) : IntsAre (vs ++ [.int n t]) (ns ++ [n]) := ksk_snoc h
end Mine
namespace Mine
def AR (M : Int → Int) (F : List Int) (Ls : Nat → List Int) (B : List Bk) (st lim d told : Int) (M' : Int → Int) (F' : List Int) (Ls' : Nat → List Int) : Prop :=
  (told = 0 ∧ (∀ b ∈ B, b.d = none → b.n < bsz (M (d / 4))) ∧ M' = M ∧ F' = F ∧ Ls' = Ls) ∨
  ∃ pre b suf, B = pre ++ b :: suf ∧ b.d = none ∧ bsz (M (d / 4)) ≤ b.n ∧ Made M B pre b suf (bsz (M (d / 4))) d M' F' Ls' st lim ∧ told = b.a + 8
theorem AR.test {M M' F F' Ls Ls' B st lim d told w mx} (A : AR M F Ls B st lim d told M' F' Ls') (I : Inv M F Ls B st lim) (hw : M (d / 4) = w) (w0 : 0 ≤ w) (h1 : mx ∈ fsz B ++ [0]) (h2 : ∀ a ∈ fsz B ++ [0], a ≤ mx) :
    (!((told == 0) == decide (mx < bsz w))) = false := by
  obtain ⟨z1, _⟩ := bsz_ok w0
  rcases A with ⟨rfl, h, _⟩ | ⟨pre, b, suf, eB, hb, hle, _, rfl⟩
  · have hlt : mx < bsz w := by
      rcases mem_snoc.mp h1 with h' | h'
      · obtain ⟨b, hb, hd, e⟩ := mem_fsz.mp h'
        have := h b hb hd
        rw [hw] at this
        omega
      · omega
    rw [decide_eq_true hlt]
    rfl
  · rw [hw] at hle
    have hb' : b ∈ B := by rw [eB]; simp
    have := h2 b.n (List.mem_append_left _ (mem_fsz.mpr ⟨b, hb', hb, rfl⟩))
    obtain ⟨o1, o2, o3⟩ := (I.ok b hb').a
    rw [decide_eq_false (by omega), beq_eq_false_iff_ne.mpr (show b.a + 8 ≠ 0 by omega)]
    rfl
end Mine
namespace Mine
open PySem.Calls PySem.Spec PySem.SeqAt
section
variable {X : Fx} {n : Nat} {C : Cx} {m : Loc} {H : Hp} {env : Env}
end
end Mine
namespace Mine
/-! what is freed -/
end Mine
namespace Mine
/-! the blocks as the law rebuilds them from the records -/
/-! the free lists -/
end Mine
namespace Mine
section
variable {CM CH : Addr} {y : Yd} {hd cl c kl : Addr} {ks : List Value} {kinds : List (Int × Int)} {lim : Int} {l : Addr} {rs : List Value} {recs : List Rec} {R : Hp} {M : Int → Int} {F : List Int} {Ls : Nat → List Int} {B : List Bk} {H : Hp}
end
end Mine
namespace Mine
end Mine
namespace Mine
theorem rs1 {k : Int} (h : 0 ≤ k ∧ k ≤ 4000) : Builtin.Range.small 0 k 1 = true := r_small (by omega) (by omega) (by omega) (by omega) (.inr (by decide)) (by decide)
theorem rn1 {k : Int} (h : 0 ≤ k) : (Builtin.Range.rangeSize 0 k 1).toNat = k.toNat := by rw [rs_one (by omega)]; omega
theorem rn1' {n : Nat} : (Builtin.Range.rangeSize 0 (n : Int) 1).toNat = n := by rw [rs_one (by omega)]; omega
theorem szt {k : Int} (h : k ≤ 4000) : k.toNat ≤ sizeLine := by rw [sizeLine_eq]; omega
theorem rsA {a z : Int} (h : 0 ≤ a ∧ a + z ≤ 8192 ∧ 16 ≤ z ∧ z % 16 = 0) : Builtin.Range.small (a + 4) (a + z) 4 = true := r_small (by omega) (by omega) (by omega) (by omega) (.inr (by decide)) (by decide)
theorem rnA {a z : Int} (h : 0 ≤ a ∧ a + z ≤ 8192 ∧ 16 ≤ z ∧ z % 16 = 0) : (Builtin.Range.rangeSize (a + 4) (a + z) 4).toNat = (z / 4 - 1).toNat := by rw [rs_up (by decide) (by omega)]; omega
theorem inA {a z : Int} {i : Nat} (h : 0 ≤ a ∧ a + z ≤ 8192 ∧ 16 ≤ z ∧ z % 16 = 0) (hi : i < (z / 4 - 1).toNat) : 0 ≤ a + 4 + (i : Int) * 4 ∧ a + 4 + (i : Int) * 4 < 8192 := by omega
theorem mul4 {a : Int} {i : Nat} : a + 4 + 4 * (i : Int) = a + 4 + (i : Int) * 4 := by omega
end Mine
namespace Mine
inductive TakeF (CM CH : Addr) (y : Yd) (R : Hp) (M : Int → Int) (F : List Int) (st lim : Int) (Ls : Nat → List Int) (z : Int) (i : Nat) (m : Loc) (H : Hp) : Prop
  | mk (hs : m "self" = some (.ref y.hp)) (hz : ∃ t, m "size" = some (.int z t)) (S : HS CM CH y R M F st lim H) (hd : ∀ j, (lnum z).toNat ≤ j → j < (lnum z).toNat + i → ∀ x ∈ Ls j, M (x / 4) - 1 < z) : TakeF CM CH y R M F st lim Ls z i m H
inductive TakeW (CM CH : Addr) (y : Yd) (R : Hp) (M : Int → Int) (F : List Int) (st lim : Int) (Ls : Nat → List Int) (z : Int) (i k : Nat) (m : Loc) (H : Hp) : Prop
  | mk (gs : m "self" = some (.ref y.hp)) (gz : ∃ t, m "size" = some (.int z t)) (gn : ∃ t, m "number" = some (.int (lnum z + (i : Int) * 1) t)) (S : HS CM CH y R M F st lim H) (pre rest : List Int) (b : Int) (tb tp : Tok) (e : Ls ((lnum z).toNat + i) = pre ++ rest) (hk : k = rest.length)
    (gb : m "block" = some (.int b tb)) (gp : m "before" = some (.int (pre.getLast?.getD 0) tp)) (c : Chain M b rest) (hp : ∀ x ∈ pre, M (x / 4) - 1 < z) : TakeW CM CH y R M F st lim Ls z i k m H
inductive AreaJ (CM : Addr) (mm : Mm) (R : Hp) (hand cl c kl : Addr) (room : Int) (tr : Tok) (i : Nat) (m : Loc) (H : Hp) : Prop
  | mk (gm : m "memory" = some (.ref mm.a)) (gk : m "kinds" = some (.ref kl)) (gr : m "room" = some (.int room tr)) (R' : Hp) (M : Int → Int) (ks : List Value) (kinds : List (Int × Int)) (S : MS CM mm R' M H) (hh : HandIs hand cl R') (hc : R' c = some (.cell (some (.ref hand)))) (sx : SubX hand R R')
    (hkl : R' kl = some (.list ks)) (al : All2 (KindIs R') ks kinds) (hlen : kinds.length = i) (ko : KindsOk M kinds) (hlt : ∀ p ∈ kinds, p.1 < 64 + 96 * (i : Int)) : AreaJ CM mm R hand cl c kl room tr i m H
theorem rs1' {a b : Int} (h : -1000 ≤ a ∧ a ≤ 4000 ∧ -1000 ≤ b ∧ b ≤ 4000) : Builtin.Range.small a b 1 = true := r_small (by omega) (by omega) (by omega) (by omega) (.inr (by decide)) (by decide)
theorem lnN {z : Int} : (Builtin.Range.rangeSize (lnum z) 4 1).toNat = 4 - (lnum z).toNat ∧ (-1000 ≤ lnum z ∧ lnum z ≤ 4000 ∧ (-1000 : Int) ≤ 4 ∧ (4 : Int) ≤ 4000) := by
  have := lnum_bd z
  rw [rs_one (by omega)]
  omega
theorem lnI {z : Int} {i : Nat} : (lnum z + (i : Int) * 1).toNat = (lnum z).toNat + i ∧ 0 ≤ lnum z + (i : Int) * 1 := by have := lnum_bd z; omega
inductive BlkJ (CM CH : Addr) (y : Yd) (R : Hp) (M : Int → Int) (F : List Int) (st lim : Int) (B : List Bk) (l : Addr) (k : Nat) (m : Loc) (H : Hp) : Prop
  | mk (gs : m "self" = some (.ref y.hp)) (gf : m "found" = some (.ref l)) (P Sx : List Bk) (cur : Int) (tc : Tok) (R' : Hp) (vs : List Value) (eB : B = P ++ Sx) (hk : k = Sx.length) (gb : m "block" = some (.int cur tc)) (tl : Tiles Sx cur lim) (sub : Sub R R') (S : HS CM CH y R' M F st lim H)
    (hl : R' l = some (.list vs)) (al : All2 (BkTup R') vs P) : BlkJ CM CH y R M F st lim B l k m H
end Mine
namespace Mine
def plain : Str := Str.ofString "a"
theorem plain_eq : plain = plain := rfl
name_quick tw1549821801417843478 for Mine.plain by Mine.plain_eq
name_quick tw8075568018651887793 for Mine.plain by Mine.plain_eq
name_quick tw4251852536507555737 for Mine.plain by Mine.plain_eq
name_quick tw13479600455187215721 for Mine.plain by Mine.plain_eq
name_quick tw14979626087600564940 for Mine.plain by Mine.plain_eq
name_quick tw17522200706408893777 for Mine.plain by Mine.plain_eq
name_quick tw1437513875802745899 for Mine.plain by Mine.plain_eq
name_quick tw16789607257665165339 for Mine.plain by Mine.plain_eq
name_quick tw11304879220846320617 for Mine.plain by Mine.plain_eq
name_quick tw10459078713815827633 for Mine.plain by Mine.plain_eq
name_quick tw16487347958798203451 for Mine.plain by Mine.plain_eq
name_quick tw9759809726879904816 for Mine.plain by Mine.plain_eq
name_quick tw7323676302269181137 for Mine.plain by Mine.plain_eq
name_quick tw11277716924127702174 for Mine.plain by Mine.plain_eq
name_quick tw17828083071136270317 for Mine.plain by Mine.plain_eq
name_quick tw900395245841561262 for Mine.plain by Mine.plain_eq
name_quick tw7392212959928792091 for Mine.plain by Mine.plain_eq
name_quick tw16735964619085208501 for Mine.plain by Mine.plain_eq
name_quick tw5111356299099525756 for Mine.plain by Mine.plain_eq
name_quick tw11788150170368784547 for Mine.plain by Mine.plain_eq
name_quick tw15490439104401381959 for Mine.plain by Mine.plain_eq
name_quick tw17975652961387846372 for Mine.plain by Mine.plain_eq
name_quick tw18220123701641295943 for Mine.plain by Mine.plain_eq
name_quick tw8206430501311747189 for Mine.plain by Mine.plain_eq
name_quick tw2283851925072248500 for Mine.plain by Mine.plain_eq
name_quick tw16593013826814733010 for Mine.plain by Mine.plain_eq
name_quick tw5349121933718820234 for Mine.plain by Mine.plain_eq
name_quick tw13317431791736044220 for Mine.plain by Mine.plain_eq
name_quick tw17730428716208468724 for Mine.plain by Mine.plain_eq
name_quick tw6683783046931543321 for Mine.plain by Mine.plain_eq
name_quick tw1620339239838986703 for Mine.plain by Mine.plain_eq
name_quick tw1962928258387122110 for Mine.plain by Mine.plain_eq
name_quick tw9315938663221665524 for Mine.plain by Mine.plain_eq
name_quick tw16643706677886111943 for Mine.plain by Mine.plain_eq
name_quick tw10833955939284561965 for Mine.plain by Mine.plain_eq
name_quick tw15980859228951719591 for Mine.plain by Mine.plain_eq
name_quick tw8555734327229750603 for Mine.plain by Mine.plain_eq
name_quick tw16350708796919097252 for Mine.plain by Mine.plain_eq
name_quick tw5721027456603625697 for Mine.plain by Mine.plain_eq
name_quick tw3891137856419664920 for Mine.plain by Mine.plain_eq
name_quick tw13016732220969518872 for Mine.plain by Mine.plain_eq
name_quick tw1258717718454355964 for Mine.plain by Mine.plain_eq
name_quick tw6004533443673955352 for Mine.plain by Mine.plain_eq
name_quick tw3764465048917985505 for Mine.plain by Mine.plain_eq
name_quick tw9136488742655976645 for Mine.plain by Mine.plain_eq
name_quick tw17476080006546285661 for Mine.plain by Mine.plain_eq
name_quick tw13180171748994924942 for Mine.plain by Mine.plain_eq
name_quick tw17111948838632640456 for Mine.plain by Mine.plain_eq
name_quick tw9763268239775435451 for Mine.plain by Mine.plain_eq
name_quick tw6623780062484046687 for Mine.plain by Mine.plain_eq
name_quick tw2039238271031011813 for Mine.plain by Mine.plain_eq
name_quick tw3362959441861295915 for Mine.plain by Mine.plain_eq
name_quick tw13254397897704925713 for Mine.plain by Mine.plain_eq
name_quick tw14168537005229113720 for Mine.plain by Mine.plain_eq
name_quick tw4775785305629353868 for Mine.plain by Mine.plain_eq
name_quick tw1377046205977697930 for Mine.plain by Mine.plain_eq
name_quick tw3577408171920636059 for Mine.plain by Mine.plain_eq
name_quick tw117213463901210413 for Mine.plain by Mine.plain_eq
name_quick tw17279654841073493023 for Mine.plain by Mine.plain_eq
name_quick tw16349804527192203551 for Mine.plain by Mine.plain_eq
name_quick tw1402947280878808549 for Mine.plain by Mine.plain_eq
name_quick tw1414301608579184545 for Mine.plain by Mine.plain_eq
name_quick tw10205541121877940668 for Mine.plain by Mine.plain_eq
name_quick tw17964007177503468958 for Mine.plain by Mine.plain_eq
name_quick tw8860024209350480642 for Mine.plain by Mine.plain_eq
name_quick tw16916688483869632129 for Mine.plain by Mine.plain_eq
name_quick tw18350330562280901221 for Mine.plain by Mine.plain_eq
name_quick tw4658958612460137192 for Mine.plain by Mine.plain_eq
name_quick tw4679858250743294509 for Mine.plain by Mine.plain_eq
name_quick tw10942035263794033107 for Mine.plain by Mine.plain_eq
name_quick tw9467589175468403638 for Mine.plain by Mine.plain_eq
name_quick tw16741492637210864865 for Mine.plain by Mine.plain_eq
name_quick tw14223099787259518943 for Mine.plain by Mine.plain_eq
name_quick tw14126943448341045398 for Mine.plain by Mine.plain_eq
name_quick tw16531745337717519161 for Mine.plain by Mine.plain_eq
name_quick tw8693227569615203950 for Mine.plain by Mine.plain_eq
name_quick tw9232179746184029171 for Mine.plain by Mine.plain_eq
name_quick tw14834023430324568649 for Mine.plain by Mine.plain_eq
name_quick tw43969757491396457 for Mine.plain by Mine.plain_eq
name_quick tw17532718790514356516 for Mine.plain by Mine.plain_eq
name_quick tw16414604833108395602 for Mine.plain by Mine.plain_eq
name_quick tw17497748084772794779 for Mine.plain by Mine.plain_eq
name_quick tw12233582284571471492 for Mine.plain by Mine.plain_eq
name_quick tw18345786424863182364 for Mine.plain by Mine.plain_eq
name_quick tw3282434896037501709 for Mine.plain by Mine.plain_eq
set_option maxRecDepth 100000 in
set_option maxHeartbeats 8000000 in
open_top hd for PySem.Challenge.rw_nu0322_01
end Mine
namespace Mine
open PySem.Calls PySem.Spec
local macro_rules | `(tactic| ktr_rel) => `(tactic| first | with_unfolding_all rfl | with_unfolding_all assumption)
local macro_rules | `(tactic| tb_rel) => `(tactic| with_reducible first
  | (refine g_execs ?_; first
    | refine w_cons ?_
    | refine w_nil ?_)
  | (refine g_name ?_; first
    | refine w_local (by ktr_rel) ?_
    | refine w_global (by assumption) ?_
    | refine w_free (by with_unfolding_all rfl) (by assumption) ?_
    | refine w_cell (by with_unfolding_all rfl) (by assumption) ?_
    | refine w_bi (by assumption) ?_)
  | (refine g_call ?_; first
    | refine w_MCall ?_
    | refine w_Call ?_)
  | (refine g_eval ?_; first
    | refine w_BinOp ?_
    | refine w_int fun _ => ?_
    | refine w_Sub ?_
    | refine w_Attribute ?_
    | refine w_UnaryOp ?_
    | refine w_Compare ?_
    | refine w_IfExp ?_
    | refine w_str fun _ => ?_
    | refine w_none ?_
    | refine w_bool ?_)
  | (refine g_spl ?_; first
    | refine w_args0 ?_
    | refine w_args ?_)
  | (refine g_store ?_; first
    | refine w_store ?_
    | refine w_storeCell (by with_unfolding_all rfl) (by assumption) ?_)
  | (refine g_bin ?_; first
    | refine w_add fun _ => ?_
    | refine w_sub fun _ => ?_)
  | (refine g_cmp ?_; first
    | refine w_eq ?_
    | refine w_ne ?_
    | refine w_lt ?_
    | refine w_leq ?_
    | refine w_gt ?_
    | refine w_geq ?_)
  | (refine g_isTrue ?_; first
    | refine w_isCompare ?_
    | refine w_isAnd ?_
    | refine w_isOr ?_)
  | refine w_truthyB ?_
  | refine w_allAnd ?_
  | refine w_allOr ?_
  | refine w_allNilAnd ?_
  | refine w_allNilOr ?_
  | (refine g_load ?_;
     refine w_loadLocal (by ktr_rel) ?_)
  | (refine g_assign ?_; first
    | refine w_Assign ?_
    | refine w_AssignSub ?_
    | refine w_AssignAttr ?_
    | refine w_AssignTup ?_)
  | (refine g_exec ?_; first
    | refine w_Return ?_
    | refine w_If ?_
    | refine w_AugAssign ?_
    | refine w_Expr ?_
    | refine w_For ?_
    | refine w_ReturnNone ?_
    | refine w_Continue ?_)
  | refine w_iadd fun _ => ?_
  | refine w_neg fun _ => ?_
  | refine w_asName ?_
  | refine w_order0 ?_
  | refine w_order ?_)
section
def IsK (X : Fx) : Prop := X.K = hd.heap_39 X.w.params
section
variable {X : Fx} {H : Hp} (hX : IsK X)
include hX
theorem g_HEADER : ∃ t, nsIn X.K mainGlobals "HEADER" = some (some (.int 8 t)) := ⟨_, by rw [hX]; rfl⟩
theorem g_GRAIN : ∃ t, nsIn X.K mainGlobals "GRAIN" = some (some (.int 16 t)) := ⟨_, by rw [hX]; rfl⟩
theorem g_WORD : ∃ t, nsIn X.K mainGlobals "WORD" = some (some (.int 4294967296 t)) := ⟨_, by rw [hX]; rfl⟩
theorem g_LISTS : ∃ t, nsIn X.K mainGlobals "LISTS" = some (some (.int 4 t)) := ⟨_, by rw [hX]; rfl⟩
theorem fn_bsize : FnOk X.K "block_size" 28 := ⟨by rw [hX]; kernel_rfl, by rw [hX]; kernel_rfl⟩
theorem fn_lnum : FnOk X.K "list_number" 35 := ⟨by rw [hX]; kernel_rfl, by rw [hX]; kernel_rfl⟩
theorem gM_size : GetOk X.K 196 "size" := ⟨by rw [hX]; kernel_rfl, by rw [hX]; kernel_rfl, by rw [hX]; kernel_rfl⟩
theorem gM_words : GetOk X.K 196 "words" := ⟨by rw [hX]; kernel_rfl, by rw [hX]; kernel_rfl, by rw [hX]; kernel_rfl⟩
theorem mM_place : MethOk X.K 196 "place" 165 := ⟨by rw [hX]; kernel_rfl, by rw [hX]; kernel_rfl, by rw [hX]; kernel_rfl, by rw [hX]; kernel_rfl⟩
theorem mM_word : MethOk X.K 196 "word" 172 := ⟨by rw [hX]; kernel_rfl, by rw [hX]; kernel_rfl, by rw [hX]; kernel_rfl, by rw [hX]; kernel_rfl⟩
theorem mM_put : MethOk X.K 196 "put_word" 179 := ⟨by rw [hX]; kernel_rfl, by rw [hX]; kernel_rfl, by rw [hX]; kernel_rfl, by rw [hX]; kernel_rfl⟩
theorem c_bsize {r : Int} {t : Tok} {Q : Value → Hp → Prop} (q : ∀ t, Q (.int ((r + 23) / 16 * 16) t) H) : Spec X 1 (.ref 28) [.int r t] H Q := by
  refine spec_fn (f := 28) ["record_size"] (by rw [hX]; rfl) (by rw [hX]; rfl) (by rfl) (by rfl) (by rfl) (fun C => ?_)
  obtain ⟨t1, hG⟩ := g_GRAIN hX
  obtain ⟨t2, hH⟩ := g_HEADER hX
  repeat tb_rel
  refine w_fdiv (fun _ => ?_) (by decide) (noPylong_of (by decide) (by decide))
  repeat tb_rel
  refine w_mul (fun t => ?_) (.of_right (by decide))
  have : (r + 8 + 16 - 1).fdiv 16 * 16 = (r + 23) / 16 * 16 := by rw [Int.fdiv_eq_ediv_of_nonneg _ (by decide)]; congr 2; omega
  rw [this]
  exact q t
theorem c_lnum {r : Int} {t : Tok} {Q : Value → Hp → Prop} (q : ∀ t, Q (.int (lnum r) t) H) : Spec X 1 (.ref 35) [.int r t] H Q := by
  refine spec_fn (f := 35) ["size"] (by rw [hX]; rfl) (by rw [hX]; rfl) (by rfl) (by rfl) (by rfl) (fun C => ?_)
  iterate 7 tb_rel
  refine if_dec (fun h1 => ?_) (fun h1 => ?_)
  · iterate 3 tb_rel
    rename_i t
    have := q t
    unfold lnum at this
    rwa [if_pos h1] at this
  iterate 8 tb_rel
  refine if_dec (fun h2 => ?_) (fun h2 => ?_)
  · iterate 3 tb_rel
    rename_i t
    have := q t
    unfold lnum at this
    rwa [if_neg h1, if_pos h2] at this
  iterate 8 tb_rel
  refine if_dec (fun h3 => ?_) (fun h3 => ?_)
  · iterate 3 tb_rel
    rename_i t
    have := q t
    unfold lnum at this
    rwa [if_neg h1, if_neg h2, if_pos h3] at this
  iterate 4 tb_rel
  rename_i t
  have := q t
  unfold lnum at this
  rwa [if_neg h1, if_neg h2, if_neg h3] at this
theorem c_place {x : Int} {t t₀ : Tok} {a d : Addr} {wd : Addr} {Q : Value → Hp → Prop} (ha : H a = some (.inst 196 d)) (hd : H d = some (.ns (memF wd t₀) 2)) (h0 : 0 ≤ x) (h1 : x < 8192) (q : ∀ t, Q (.int (x / 4) t) H) :
    Spec X 1 (.ref 165) [.ref a, .int x t] H Q := by
  refine spec_fn (f := 165) ["self", "address"] (by rw [hX]; rfl) (by rw [hX]; rfl) (by rfl) (by rfl) (by rfl) (fun C => ?_)
  repeat tb_rel
  refine if_dec (fun h => by omega) (fun h => ?_)
  repeat tb_rel
  refine w_field (gM_size hX) ha hd (by rfl) (by rfl) ?_
  repeat tb_rel
  refine if_dec (fun h => by omega) (fun h => ?_)
  repeat tb_rel
  refine if_false ?_
  repeat tb_rel
  refine w_fdiv (fun t => ?_) (by decide) (noPylong_of (by decide) (by decide))
  rw [Int.fdiv_eq_ediv_of_nonneg _ (by decide)]
  exact q t
theorem c_word {y : Mm} {R : Hp} {M : Int → Int} {x : Int} {t : Tok} {Q : Value → Hp → Prop} (S : MS 196 y R M H) (h0 : 0 ≤ x) (h1 : x < 8192) (q : ∀ t, Q (.int (M (x / 4)) t) H) :
    Spec X 2 (.ref 172) [.ref y.a, .int x t] H Q := by
  obtain ⟨td, hd⟩ := S.d
  obtain ⟨g, hg, hw⟩ := S.w
  refine spec_fn (f := 172) ["self", "address"] (by rw [hX]; rfl) (by rw [hX]; rfl) (by rfl) (by rfl) (by rfl) (fun C => ?_)
  repeat tb_rel
  refine w_field (gM_words hX) S.a hd (by rfl) (by rfl) ?_
  refine w_mDict hg PySem.F.slot_dict_get PySem.F.type_dict_get ?_
  refine w_callB (by intro _ e; cases e) ?_ (by kernel_rfl) (by kernel_rfl)
  repeat tb_rel
  refine w_meth (mM_place hX) S.a hd (by rfl) ?_
  refine w_callK (mM_place hX).k ?_ (by kernel_rfl) (by kernel_rfl)
  repeat tb_rel
  refine w_call (c_place hX S.a hd h0 h1 fun t => ?_) (by decide)
  repeat tb_rel
  refine w_dget hg ?_
  cases hv : g (x / 4) with
  | none =>
    have := q (by assumption)
    rw [hw.1 _ hv] at this
    exact this
  | some v =>
    obtain ⟨_, t', rfl⟩ := hw.2 _ _ hv
    exact q t'
theorem c_put {y : Mm} {R : Hp} {M : Int → Int} {x v : Int} {t t' : Tok} {Q : Value → Hp → Prop} (S : MS 196 y R M H) (h0 : 0 ≤ x) (h1 : x < 8192) (q : ∀ H', MS 196 y R (wr M x v) H' → Q .none H') :
    Spec X 2 (.ref 179) [.ref y.a, .int x t, .int v t'] H Q := by
  obtain ⟨td, hd⟩ := S.d
  obtain ⟨g, hg, hw⟩ := S.w
  obtain ⟨tw, hW⟩ := g_WORD hX
  refine spec_fn (f := 179) ["self", "address", "value"] (by rw [hX]; rfl) (by rw [hX]; rfl) (by rfl) (by rfl) (by rfl) (fun C => ?_)
  repeat tb_rel
  refine w_fmod (fun tv => ?_) (by decide)
  repeat tb_rel
  refine w_field (gM_words hX) S.a hd (by rfl) (by rfl) ?_
  repeat tb_rel
  refine w_meth (mM_place hX) S.a hd (by rfl) ?_
  refine w_callK (mM_place hX).k ?_ (by kernel_rfl) (by kernel_rfl)
  repeat tb_rel
  refine w_call (c_place hX S.a hd h0 h1 fun t => ?_) (by decide)
  refine w_dset (B := 2048) hg (fun k hk => ?_) (by decide) ?_
  · cases hv : g k with
    | none => exact absurd hv hk
    | some v => exact (hw.2 _ _ hv).1
  · rw [Int.fmod_eq_emod_of_nonneg _ (by decide)]
    repeat tb_rel
    exact q _ (S.put hg h0 h1 tv hw S.wa S.wd)
end
end
section
section
variable {X : Fx} {H : Hp} (hX : IsK X)
include hX
theorem gH_memory : GetOk X.K 108 "memory" := ⟨by rw [hX]; kernel_rfl, by rw [hX]; kernel_rfl, by rw [hX]; kernel_rfl⟩
theorem gH_start : GetOk X.K 108 "start" := ⟨by rw [hX]; kernel_rfl, by rw [hX]; kernel_rfl, by rw [hX]; kernel_rfl⟩
theorem gH_limit : GetOk X.K 108 "limit" := ⟨by rw [hX]; kernel_rfl, by rw [hX]; kernel_rfl, by rw [hX]; kernel_rfl⟩
theorem gH_free : GetOk X.K 108 "free" := ⟨by rw [hX]; kernel_rfl, by rw [hX]; kernel_rfl, by rw [hX]; kernel_rfl⟩
theorem mH_put_free : MethOk X.K 108 "put_free" 56 := ⟨by rw [hX]; kernel_rfl, by rw [hX]; kernel_rfl, by rw [hX]; kernel_rfl, by rw [hX]; kernel_rfl⟩
theorem mH_is_free : MethOk X.K 108 "is_free" 63 := ⟨by rw [hX]; kernel_rfl, by rw [hX]; kernel_rfl, by rw [hX]; kernel_rfl, by rw [hX]; kernel_rfl⟩
theorem mH_descriptor : MethOk X.K 108 "descriptor" 70 := ⟨by rw [hX]; kernel_rfl, by rw [hX]; kernel_rfl, by rw [hX]; kernel_rfl, by rw [hX]; kernel_rfl⟩
theorem mH_size_of : MethOk X.K 108 "size_of" 77 := ⟨by rw [hX]; kernel_rfl, by rw [hX]; kernel_rfl, by rw [hX]; kernel_rfl, by rw [hX]; kernel_rfl⟩
theorem mH_take : MethOk X.K 108 "take_free" 84 := ⟨by rw [hX]; kernel_rfl, by rw [hX]; kernel_rfl, by rw [hX]; kernel_rfl, by rw [hX]; kernel_rfl⟩
theorem mH_alloc : MethOk X.K 108 "alloc" 91 := ⟨by rw [hX]; kernel_rfl, by rw [hX]; kernel_rfl, by rw [hX]; kernel_rfl, by rw [hX]; kernel_rfl⟩
theorem mH_blocks : MethOk X.K 108 "blocks" 98 := ⟨by rw [hX]; kernel_rfl, by rw [hX]; kernel_rfl, by rw [hX]; kernel_rfl, by rw [hX]; kernel_rfl⟩
theorem b_range : BuiltOk X.K "range" (.type "range") := ⟨by rw [hX]; kernel_rfl, by rfl⟩
theorem b_len : BuiltOk X.K "len" (.builtin "len") := ⟨by rw [hX]; kernel_rfl, by rfl⟩
variable {y : Yd} {R : Hp} {M : Int → Int} {F : List Int} {st lim : Int}
theorem c_isfree {x : Int} {t : Tok} {Q : Value → Hp → Prop} (S : HS 196 108 y R M F st lim H) (h0 : 0 ≤ x) (h1 : x < 8192) (q : Q (.bool (M (x / 4) % 2 == 1)) H) : Spec X 3 (.ref 63) [.ref y.hp, .int x t] H Q := by
  obtain ⟨t1, t2, fl, vs, h2, h3, h4, h5⟩ := S.hd
  obtain ⟨tm, hm⟩ := S.m.d
  refine spec_fn (f := 63) ["self", "block"] (by rw [hX]; rfl) (by rw [hX]; rfl) (by rfl) (by rfl) (by rfl) (fun C => ?_)
  repeat tb_rel
  refine w_field (gH_memory hX) S.hp h2 (by rfl) (by rfl) ?_
  refine w_meth (mM_word hX) S.m.a hm (by rfl) ?_
  refine w_callK (mM_word hX).k ?_ (by kernel_rfl) (by kernel_rfl)
  repeat tb_rel
  refine w_call (c_word hX S.m h0 h1 fun t => ?_) (by decide)
  repeat tb_rel
  refine w_fmod (fun t => ?_) (by decide)
  rw [Int.fmod_eq_emod_of_nonneg _ (by decide)]
  repeat tb_rel
  exact q
theorem c_desc {x : Int} {t : Tok} {Q : Value → Hp → Prop} (S : HS 196 108 y R M F st lim H) (h0 : 0 ≤ x) (h1 : x < 8192) (q : ∀ t, Q (.int (M (x / 4)) t) H) : Spec X 3 (.ref 70) [.ref y.hp, .int x t] H Q := by
  obtain ⟨t1, t2, fl, vs, h2, h3, h4, h5⟩ := S.hd
  obtain ⟨tm, hm⟩ := S.m.d
  refine spec_fn (f := 70) ["self", "block"] (by rw [hX]; rfl) (by rw [hX]; rfl) (by rfl) (by rfl) (by rfl) (fun C => ?_)
  repeat tb_rel
  refine w_field (gH_memory hX) S.hp h2 (by rfl) (by rfl) ?_
  refine w_meth (mM_word hX) S.m.a hm (by rfl) ?_
  refine w_callK (mM_word hX).k ?_ (by kernel_rfl) (by kernel_rfl)
  repeat tb_rel
  refine w_call (c_word hX S.m h0 h1 fun t => ?_) (by decide)
  exact q t
theorem c_size {x : Int} {t : Tok} {Q : Value → Hp → Prop} (S : HS 196 108 y R M F st lim H) (h0 : 0 ≤ x) (h1 : x < 8192) (hd : M (x / 4) % 2 = 1 ∨ (0 ≤ M (x / 4) ∧ M (x / 4) < 8192)) (q : ∀ t, Q (.int (szAt M x) t) H) :
    Spec X 3 (.ref 77) [.ref y.hp, .int x t] H Q := by
  obtain ⟨t1, t2, fl, vs, h2, h3, h4, h5⟩ := S.hd
  obtain ⟨tm, hm⟩ := S.m.d
  have nb := (fn_bsize hX).n
  refine spec_fn (f := 77) ["self", "block"] (by rw [hX]; rfl) (by rw [hX]; rfl) (by rfl) (by rfl) (by rfl) (fun C => ?_)
  repeat tb_rel
  refine w_field (gH_memory hX) S.hp h2 (by rfl) (by rfl) ?_
  refine w_meth (mM_word hX) S.m.a hm (by rfl) ?_
  refine w_callK (mM_word hX).k ?_ (by kernel_rfl) (by kernel_rfl)
  repeat tb_rel
  refine w_call (c_word hX S.m h0 h1 fun t => ?_) (by decide)
  repeat tb_rel
  refine w_fmod (fun t => ?_) (by decide)
  rw [Int.fmod_eq_emod_of_nonneg _ (by decide)]
  repeat tb_rel
  refine if_beq (fun h => ?_) (fun h => ?_)
  · repeat tb_rel
    rename_i tk
    have := q tk
    unfold szAt at this
    rwa [if_pos h] at this
  · repeat tb_rel
    refine w_callK (fn_bsize hX).k ?_ (by kernel_rfl) (by kernel_rfl)
    repeat tb_rel
    refine w_field (gH_memory hX) S.hp h2 (by rfl) (by rfl) ?_
    refine w_meth (mM_word hX) S.m.a hm (by rfl) ?_
    refine w_callK (mM_word hX).k ?_ (by kernel_rfl) (by kernel_rfl)
    repeat tb_rel
    have hd' := hd.resolve_left h
    refine w_call (c_word hX S.m hd'.1 hd'.2 fun t => ?_) (by decide)
    repeat tb_rel
    refine w_call (c_bsize hX fun t => ?_) (by decide)
    have := q t
    unfold szAt at this
    rwa [if_neg h] at this
theorem c_putH {x v : Int} {t t' : Tok} {Q : Value → Hp → Prop} (S : HS 196 108 y R M F st lim H) (h0 : 0 ≤ x) (h1 : x < 8192) (q : ∀ H', HS 196 108 y R (wr M x v) F st lim H' → Q .none H') :
    Spec X 2 (.ref 179) [.ref y.mm.a, .int x t, .int v t'] H Q := by
  obtain ⟨t1, t2, fl, vs, h2, h3, h4, h5⟩ := S.hd
  exact c_put hX (S.view h3) h0 h1 fun H' S' => q H' (S.of_view h2 h3 h4 h5 S').1
theorem c_putfree {x s : Int} {t t' : Tok} {Q : Value → Hp → Prop} (S : HS 196 108 y R M F st lim H) (hF : F.length = 4) (h0 : 0 ≤ x) (h1 : x + 4 < 8192)
    (q : ∀ H', HS 196 108 y R (wr (wr M x (s + 1)) (x + 4) (F.getD (lnum s).toNat 0)) (F.set (lnum s).toNat x) st lim H' → Q .none H') : Spec X 3 (.ref 56) [.ref y.hp, .int x t, .int s t'] H Q := by
  obtain ⟨t1, t2, fl, vs, h2, h3, h4, h5⟩ := S.hd
  obtain ⟨tm, hm⟩ := S.m.d
  have nl := (fn_lnum hX).n
  have lb := lnum_bd s
  refine spec_fn (f := 56) ["self", "block", "size"] (by rw [hX]; rfl) (by rw [hX]; rfl) (by rfl) (by rfl) (by rfl) (fun C => ?_)
  repeat tb_rel
  refine w_callK (fn_lnum hX).k ?_ (by kernel_rfl) (by kernel_rfl)
  repeat tb_rel
  refine w_call (c_lnum hX fun tl => ?_) (by decide)
  repeat tb_rel
  refine w_field (gH_memory hX) S.hp h2 (by rfl) (by rfl) ?_
  refine w_meth (mM_put hX) S.m.a hm (by rfl) ?_
  refine w_callK (mM_put hX).k ?_ (by kernel_rfl) (by kernel_rfl)
  repeat tb_rel
  refine w_call (c_put hX (S.view h3) h0 (by omega) fun H₁ S₁ => ?_) (by decide)
  obtain ⟨S₁, k2, k3⟩ := S.of_view h2 h3 h4 h5 S₁
  obtain ⟨tm₁, hm₁⟩ := S₁.m.d
  repeat tb_rel
  refine w_field (gH_memory hX) S₁.hp k2 (by rfl) (by rfl) ?_
  refine w_meth (mM_put hX) S₁.m.a hm₁ (by rfl) ?_
  refine w_callK (mM_put hX).k ?_ (by kernel_rfl) (by kernel_rfl)
  repeat tb_rel
  refine w_field (gH_free hX) S₁.hp k2 (by rfl) (by rfl) ?_
  repeat tb_rel
  have hlt : (lnum s).toNat < F.length := by omega
  obtain ⟨tv, hv⟩ := h4.2 (lnum s).toNat _ (List.getElem?_eq_getElem hlt)
  refine w_subL k3 lb.1 (by omega) hv ?_ (by with_unfolding_all rfl)
  repeat tb_rel
  refine w_call (c_put hX (S₁.view k3) (by omega) h1 fun H₂ S₂ => ?_) (by decide)
  obtain ⟨S₂, j2, j3⟩ := S₁.of_view k2 k3 h4 h5 S₂
  repeat tb_rel
  refine w_field (gH_free hX) S₂.hp j2 (by rfl) (by rfl) ?_
  repeat tb_rel
  refine w_lset j3 lb.1 (by omega) (by rw [h4.1]; omega) ?_
  repeat tb_rel
  have e : F.getD (lnum s).toNat 0 = F[(lnum s).toNat] := by rw [List.getD_eq_getElem?_getD, List.getElem?_eq_getElem hlt]; rfl
  rw [← e] at S₂
  exact q _ (S₂.free j2 j3 h5 (h4.set _ x t))
end
end
section
section
variable {X : Fx} {H : Hp} (hX : IsK X)
include hX
variable {y : Yd} {R : Hp} {M : Int → Int} {F : List Int} {st lim : Int}
theorem c_take {Ls : Nat → List Int} {z : Int} {tz : Tok} {Q : Value → Hp → Prop} (S : HS 196 108 y R M F st lim H) (f : FL M F Ls)
    (q0 : ∀ H' t, (∀ i, (lnum z).toNat ≤ i → i < 4 → ∀ x ∈ Ls i, M (x / 4) - 1 < z) → HS 196 108 y R M F st lim H' → Q (.int 0 t) H')
    (q1 : ∀ i x M' F' H' t, i < 4 → x ∈ Ls i → z ≤ M (x / 4) - 1 → Took M F Ls i x M' F' → HS 196 108 y R M' F' st lim H' → Q (.int x t) H') : Spec X 4 (.ref 84) [.ref y.hp, .int z tz] H Q := by
  have nl := (fn_lnum hX).n
  obtain ⟨tL, nL⟩ := g_LISTS hX
  have br := b_range hX
  have lb := lnum_bd z
  refine spec_fn (f := 84) ["self", "size"] (by rw [hX]; rfl) (by rw [hX]; rfl) (by rfl) (by rfl) (by rfl) (fun C => ?_)
  repeat tb_rel
  refine w_callB (by intro _ e; cases e) ?_ (by kernel_rfl) (by kernel_rfl)
  repeat tb_rel
  refine w_callK (fn_lnum hX).k ?_ (by kernel_rfl) (by kernel_rfl)
  repeat tb_rel
  refine w_call (c_lnum hX fun tl => ?_) (by decide)
  repeat tb_rel
  refine w_range2 fun r hr => ?_
  refine for_range (upd_self _ _ _) (rs1' lnN.2) (4 - (lnum z).toNat) lnN.1
    (TakeF 196 108 y R M F st lim Ls z)
    ⟨by rfl, ⟨_, by rfl⟩, S.add hr, fun j h1 h2 => by omega⟩ (fun i ti h m H hi hJ => ?_) (fun m H hJ => ?_) (by rfl) (by rfl) (by rfl)
  · obtain ⟨hs, ⟨ts, hz⟩, S, hd⟩ := hJ
    obtain ⟨t1, t2, fl, vs, h2, h3, h4, h5⟩ := S.hd
    have hi4 : (lnum z).toNat + i < 4 := by omega
    have hc := f.ch _ hi4
    repeat tb_rel
    refine w_field (gH_free hX) S.hp h2 (by rfl) (by rfl) ?_
    repeat tb_rel
    obtain ⟨tv, hv⟩ := h4.2 ((lnum z).toNat + i) (F.getD ((lnum z).toNat + i) 0) (by rw [List.getD_eq_getElem?_getD, List.getElem?_eq_getElem (by rw [f.len]; exact hi4)]; rfl)
    refine w_subL h3 lnI.2 (by omega) (by rw [lnI.1]; exact hv) ?_ (by with_unfolding_all rfl)
    repeat tb_rel
    refine w_While (TakeW 196 108 y R M F st lim Ls z i)
      (Ls ((lnum z).toNat + i)).length ⟨by with_unfolding_all assumption, ⟨_, by with_unfolding_all assumption⟩, ⟨_, by rfl⟩, S, [], _, _, _, _, rfl, rfl, by rfl, by rfl, hc, by simp⟩ ?_
    rintro k m₁ H₁ ⟨gs, ⟨ts₁, gz⟩, ⟨tn, gn⟩, S₁, pre, rest, b, tb, tp, e1, rfl, gb, gp, c, hpre⟩
    repeat tb_rel
    refine if_bne (fun hb => ?_) (fun hb => ?_)
    · rcases c.head with ⟨h, _⟩ | ⟨rest', rfl, c'⟩
      · exact absurd h hb
      have hbm : b ∈ Ls ((lnum z).toNat + i) := by rw [e1]; simp
      obtain ⟨⟨o1, o2, o3⟩, odd⟩ := f.ok _ hi4 b hbm
      obtain ⟨t1', t2', fl', vs', j2, j3, j4, j5⟩ := S₁.hd
      obtain ⟨tm, hm⟩ := S₁.m.d
      repeat tb_rel
      refine w_field (gH_memory hX) S₁.hp j2 (by rfl) (by rfl) ?_
      refine w_meth (mM_word hX) S₁.m.a hm (by rfl) ?_
      refine w_callK (mM_word hX).k ?_ (by kernel_rfl) (by kernel_rfl)
      repeat tb_rel
      refine w_call (c_word hX S₁.m (by omega) (by omega) fun tf => ?_) (by decide)
      repeat tb_rel
      refine w_meth (mH_size_of hX) S₁.hp j2 (by rfl) ?_
      refine w_callK (mH_size_of hX).k ?_ (by kernel_rfl) (by kernel_rfl)
      repeat tb_rel
      refine w_call (c_size hX S₁ (by omega) (by omega) (.inl odd) fun tq => ?_) (by decide)
      have esz : szAt M b = M (b / 4) - 1 := by unfold szAt; rw [if_pos odd]
      rw [esz]
      repeat tb_rel
      refine if_dec (fun hge => ?_) (fun hge => ?_)
      · repeat tb_rel
        refine if_beq (fun h0 => ?_) (fun h0 => ?_)
        · have epre : pre = [] := by
            cases hl : pre.getLast? with
            | none => exact List.getLast?_eq_none_iff.mp hl
            | some p =>
              rw [hl] at h0
              have hp : p ∈ Ls ((lnum z).toNat + i) := by rw [e1]; exact List.mem_append_left _ (List.mem_of_getLast? hl)
              exact absurd h0 (f.ok _ hi4 p hp).1.ne0
          subst epre
          repeat tb_rel
          refine w_field (gH_free hX) S₁.hp j2 (by rfl) (by rfl) ?_
          repeat tb_rel
          refine w_lset j3 lnI.2 (by omega) (by rw [j4.1, f.len]; omega) ?_
          rw [lnI.1]
          repeat tb_rel
          exact q1 _ b _ _ _ _ hi4 hbm hge (f.took_head hi4 e1) (S₁.free j2 j3 j5 (j4.set _ _ tf))
        · obtain ⟨pre', p, epre⟩ : ∃ pre' p, pre = pre' ++ [p] := by
            cases hl : pre.getLast? with
            | none => rw [hl] at h0; exact absurd rfl h0
            | some p =>
              obtain ⟨ys, hy⟩ := List.getLast?_eq_some_iff.mp hl
              exact ⟨ys, p, hy⟩
          subst epre
          have elast : (pre' ++ [p]).getLast?.getD 0 = p := by simp
          rw [elast] at gp
          have hp : p ∈ Ls ((lnum z).toNat + i) := by rw [e1]; simp
          obtain ⟨⟨p1, p2, p3⟩, _⟩ := f.ok _ hi4 p hp
          repeat tb_rel
          refine w_field (gH_memory hX) S₁.hp j2 (by rfl) (by rfl) ?_
          refine w_meth (mM_put hX) S₁.m.a hm (by rfl) ?_
          refine w_callK (mM_put hX).k ?_ (by kernel_rfl) (by kernel_rfl)
          repeat tb_rel
          refine w_call (c_putH hX S₁ (by omega) (by omega) fun H₂ S₂ => ?_) (by decide)
          repeat tb_rel
          exact q1 _ b _ _ _ _ hi4 hbm hge (f.took_mid (pre := pre') (rest := rest') hi4 (by rw [e1]; simp) rfl) S₂
      · repeat tb_rel
        refine ⟨rest'.length, by simp, by with_unfolding_all assumption, ⟨_, by with_unfolding_all assumption⟩, ⟨_, by with_unfolding_all assumption⟩, S₁, pre ++ [b], rest', _, _, tb, by rw [e1]; simp, rfl, by rfl, ?_, c', fun x hx => ?_⟩
        · have : (pre ++ [b]).getLast?.getD 0 = b := by simp
          rw [this]; rfl
        · rcases List.mem_append.mp hx with hx | hx
          · exact hpre x hx
          · rw [List.mem_singleton.mp hx]; omega
    · repeat tb_rel
      rcases c.head with ⟨_, rfl⟩ | ⟨rest', rfl, _⟩
      · rw [List.append_nil] at e1
        refine ⟨gs, ⟨_, gz⟩, S₁, fun j h1 h2 x hx => ?_⟩
        by_cases q : j = (lnum z).toNat + i
        · subst q; rw [e1] at hx; exact hpre x hx
        · exact hd j h1 (by omega) x hx
      · subst hb
        have := (f.ok _ hi4 0 (by rw [e1]; simp)).1.ne0
        exact absurd rfl this
  · obtain ⟨hs, hz, S, hd⟩ := hJ
    repeat tb_rel
    exact q0 _ _ (fun j h1 h2 => hd j h1 (by omega)) S
end
end
section
section
variable {X : Fx} {H : Hp} (hX : IsK X)
include hX
variable {y : Yd} {R : Hp} {M : Int → Int} {F : List Int} {st lim : Int}
theorem c_alloc {Ls : Nat → List Int} {B : List Bk} {d : Int} {td : Tok} {Q : Value → Hp → Prop} (S : HS 196 108 y R M F st lim H) (I : Inv M F Ls B st lim) (D : DescOk M d)
    (q0 : ∀ H' t, (∀ b ∈ B, b.d = none → b.n < bsz (M (d / 4))) → HS 196 108 y R M F st lim H' → Q (.int 0 t) H')
    (q1 : ∀ pre b suf M' F' Ls' H' t, B = pre ++ b :: suf → b.d = none → bsz (M (d / 4)) ≤ b.n → Made M B pre b suf (bsz (M (d / 4))) d M' F' Ls' st lim → HS 196 108 y R M' F' st lim H' → Q (.int (b.a + 8) t) H') :
    Spec X 5 (.ref 91) [.ref y.hp, .int d td] H Q := by
  obtain ⟨t1, t2, fl, vs, h2, h3, h4, h5⟩ := S.hd
  obtain ⟨tm, hm⟩ := S.m.d
  have nb := (fn_bsize hX).n
  have br := b_range hX
  obtain ⟨tH, hH⟩ := g_HEADER hX
  have D1 := D.l
  have D2 := D.u
  obtain ⟨z1, z2, z3, z4⟩ := bsz_ok D.w
  have zv := D.v
  refine spec_fn (f := 91) ["self", "descriptor"] (by rw [hX]; rfl) (by rw [hX]; rfl) (by rfl) (by rfl) (by rfl) (fun C => ?_)
  repeat tb_rel
  refine w_callK (fn_bsize hX).k ?_ (by kernel_rfl) (by kernel_rfl)
  repeat tb_rel
  refine w_field (gH_memory hX) S.hp h2 (by rfl) (by rfl) ?_
  refine w_meth (mM_word hX) S.m.a hm (by rfl) ?_
  refine w_callK (mM_word hX).k ?_ (by kernel_rfl) (by kernel_rfl)
  repeat tb_rel
  refine w_call (c_word hX S.m (by omega) (by omega) fun t => ?_) (by decide)
  repeat tb_rel
  refine w_call (c_bsize hX fun t => ?_) (by decide)
  rw [show (M (d / 4) + 23) / 16 * 16 = bsz (M (d / 4)) from rfl]
  generalize hz : bsz (M (d / 4)) = z at *
  repeat tb_rel
  refine w_meth (mH_take hX) S.hp h2 (by rfl) ?_
  refine w_callK (mH_take hX).k ?_ (by kernel_rfl) (by kernel_rfl)
  repeat tb_rel
  refine w_call (c_take hX S I.fl (fun H₁ t1 hno S₁ => ?_) (fun i x M₁ F₁ H₁ tx hi hx hge T S₁ => ?_)) (by decide)
  · repeat tb_rel
    refine if_beq (fun _ => ?_) (fun h => absurd rfl h)
    repeat tb_rel
    refine q0 _ _ (fun b hb hbd => ?_) S₁
    have ob := I.ok b hb
    have hMb : M (b.a / 4) = b.n + 1 := by have := ob.h; unfold Head at this; rw [hbd] at this; exact this
    by_cases hlt : b.n < z
    · exact hlt
    · have lb := lnum_bd b.n
      have := hno (lnum b.n).toNat (lnum_mono (by omega)) (by omega) b.a ((I.ls _ (by omega) _).mpr ⟨b, hb, rfl, hbd, rfl⟩)
      omega
  · obtain ⟨pre, b, suf, eB, rfl, hbd, hle, ox, hx8, hb16, hM1, whole, split⟩ := took_made I hz.symm D hi hx hge T
    have ob : OkB M b := I.ok b (by rw [eB]; simp)
    obtain ⟨ox1, ox2, ox3⟩ := ox
    obtain ⟨t1', t2', fl', vs', j2, j3, j4, j5⟩ := S₁.hd
    obtain ⟨tm', hm'⟩ := S₁.m.d
    have odd : M₁ (b.a / 4) % 2 = 1 := by rw [hM1]; omega
    repeat tb_rel
    refine if_beq (fun h => by omega) (fun _ => ?_)
    repeat tb_rel
    refine w_meth (mH_size_of hX) S₁.hp j2 (by rfl) ?_
    refine w_callK (mH_size_of hX).k ?_ (by kernel_rfl) (by kernel_rfl)
    repeat tb_rel
    refine w_call (c_size hX S₁ (by omega) (by omega) (.inl odd) fun tq => ?_) (by decide)
    have esz : szAt M₁ b.a = b.n := by unfold szAt; rw [if_pos odd, hM1]; omega
    rw [esz]
    repeat tb_rel
    refine if_dec (fun hpos => ?_) (fun hpos => ?_)
    · obtain ⟨Ls', Mk⟩ := split (by omega)
      repeat tb_rel
      refine w_meth (mH_put_free hX) S₁.hp j2 (by rfl) ?_
      refine w_callK (mH_put_free hX).k ?_ (by kernel_rfl) (by kernel_rfl)
      repeat tb_rel
      refine w_call (c_putfree hX S₁ T.fl.len (by omega) (by omega) fun H₂ S₂ => ?_) (by decide)
      obtain ⟨t1'', t2'', fl'', vs'', k2, k3, k4, k5⟩ := S₂.hd
      obtain ⟨tm'', hm''⟩ := S₂.m.d
      repeat tb_rel
      refine w_field (gH_memory hX) S₂.hp k2 (by rfl) (by rfl) ?_
      refine w_meth (mM_put hX) S₂.m.a hm'' (by rfl) ?_
      refine w_callK (mM_put hX).k ?_ (by kernel_rfl) (by kernel_rfl)
      repeat tb_rel
      refine w_call (c_putH hX S₂ (by omega) (by omega) fun H₃ S₃ => ?_) (by decide)
      repeat tb_rel
      refine w_callB (by intro _ e; cases e) ?_ (by kernel_rfl) (by kernel_rfl)
      repeat tb_rel
      refine w_range3 (by decide) (noPylong_of (by decide) (by decide)) fun r hr => ?_
      have zb : 0 ≤ b.a ∧ b.a + z ≤ 8192 ∧ 16 ≤ z ∧ z % 16 = 0 := by omega
      refine for_range (upd_self _ _ _) (rsA zb) (z / 4 - 1).toNat (rnA zb)
        (fun i m H => m "self" = some (.ref y.hp) ∧ (∃ t, m "block" = some (.int b.a t)) ∧ HS 196 108 y R (zr (wr (wr (wr M₁ (b.a + z) (b.n - z + 1)) (b.a + z + 4) (F₁.getD (lnum (b.n - z)).toNat 0)) b.a d) (b.a + 4) i) (F₁.set (lnum (b.n - z)).toNat (b.a + z)) st lim H)
        ⟨by rfl, ⟨_, by rfl⟩, by rw [zr_zero]; exact S₃.add hr⟩ (fun i ti h m H hi hJ => ?_) (fun m H hJ => ?_) (by rfl) (by rfl) (by rfl)
      · obtain ⟨hs, ⟨tb, hb'⟩, S₄⟩ := hJ
        obtain ⟨a1, a2, a3, a4, l2, l3, l4, l5⟩ := S₄.hd
        obtain ⟨tm₄, hm₄⟩ := S₄.m.d
        repeat tb_rel
        refine w_field (gH_memory hX) S₄.hp l2 (by rfl) (by rfl) ?_
        refine w_meth (mM_put hX) S₄.m.a hm₄ (by rfl) ?_
        refine w_callK (mM_put hX).k ?_ (by kernel_rfl) (by kernel_rfl)
        repeat tb_rel
        refine w_call (c_putH hX S₄ (inA zb hi).1 (inA zb hi).2 fun H₅ S₅ => ?_) (by decide)
        repeat tb_rel
        refine ⟨hs, ⟨_, hb'⟩, ?_⟩
        rw [← zr_succ _ _ _ (by omega)]
        rw [mul4]
        exact S₅
      · obtain ⟨hs, ⟨tb, hb'⟩, S₄⟩ := hJ
        repeat tb_rel
        exact q1 pre b suf _ _ _ _ _ eB hbd hle Mk S₄
    · obtain ⟨Ls', Mk⟩ := whole (by omega)
      repeat tb_rel
      refine w_field (gH_memory hX) S₁.hp j2 (by rfl) (by rfl) ?_
      refine w_meth (mM_put hX) S₁.m.a hm' (by rfl) ?_
      refine w_callK (mM_put hX).k ?_ (by kernel_rfl) (by kernel_rfl)
      repeat tb_rel
      refine w_call (c_putH hX S₁ (by omega) (by omega) fun H₃ S₃ => ?_) (by decide)
      repeat tb_rel
      refine w_callB (by intro _ e; cases e) ?_ (by kernel_rfl) (by kernel_rfl)
      repeat tb_rel
      refine w_range3 (by decide) (noPylong_of (by decide) (by decide)) fun r hr => ?_
      have zb : 0 ≤ b.a ∧ b.a + z ≤ 8192 ∧ 16 ≤ z ∧ z % 16 = 0 := by omega
      refine for_range (upd_self _ _ _) (rsA zb) (z / 4 - 1).toNat (rnA zb)
        (fun i m H => m "self" = some (.ref y.hp) ∧ (∃ t, m "block" = some (.int b.a t)) ∧ HS 196 108 y R (zr (wr M₁ b.a d) (b.a + 4) i) F₁ st lim H)
        ⟨by rfl, ⟨_, by rfl⟩, by rw [zr_zero]; exact S₃.add hr⟩ (fun i ti h m H hi hJ => ?_) (fun m H hJ => ?_) (by rfl) (by rfl) (by rfl)
      · obtain ⟨hs, ⟨tb, hb'⟩, S₄⟩ := hJ
        obtain ⟨a1, a2, a3, a4, l2, l3, l4, l5⟩ := S₄.hd
        obtain ⟨tm₄, hm₄⟩ := S₄.m.d
        repeat tb_rel
        refine w_field (gH_memory hX) S₄.hp l2 (by rfl) (by rfl) ?_
        refine w_meth (mM_put hX) S₄.m.a hm₄ (by rfl) ?_
        refine w_callK (mM_put hX).k ?_ (by kernel_rfl) (by kernel_rfl)
        repeat tb_rel
        refine w_call (c_putH hX S₄ (inA zb hi).1 (inA zb hi).2 fun H₅ S₅ => ?_) (by decide)
        repeat tb_rel
        refine ⟨hs, ⟨_, hb'⟩, ?_⟩
        rw [← zr_succ _ _ _ (by omega)]
        rw [mul4]
        exact S₅
      · obtain ⟨hs, ⟨tb, hb'⟩, S₄⟩ := hJ
        repeat tb_rel
        exact q1 pre b suf _ _ _ _ _ eB hbd hle Mk S₄
end
end
section
section
variable {X : Fx} {H : Hp} (hX : IsK X)
include hX
variable {y : Yd} {R : Hp} {M : Int → Int} {F : List Int} {st lim : Int}
theorem c_blocks {Ls : Nat → List Int} {B : List Bk} {Q : Value → Hp → Prop} (S : HS 196 108 y R M F st lim H) (I : Inv M F Ls B st lim)
    (q : ∀ H' R' l vs, Sub R R' → HS 196 108 y R' M F st lim H' → R' l = some (.list vs) → R l = none → All2 (BkTup R') vs B → Q (.ref l) H') : Spec X 4 (.ref 98) [.ref y.hp] H Q := by
  obtain ⟨t1, t2, fl, vs, h2, h3, h4, h5⟩ := S.hd
  refine spec_fn (f := 98) ["self"] (by rw [hX]; rfl) (by rw [hX]; rfl) (by rfl) (by rfl) (by rfl) (fun C => ?_)
  repeat tb_rel
  refine w_List ?_
  repeat tb_rel
  refine ⟨by decide, fun l hl => ?_⟩
  have Rl : R l = none := S.fresh hl
  have S₁ := S.new (ao := .list []) hl
  have h2' : upd H l (.list []) y.hd = some (.ns (heapF y.mm.a st lim fl t1 t2) 4) := by rw [upd_ne (fun q => by rw [← q, h2] at hl; cases hl)]; exact h2
  repeat tb_rel
  refine w_field (gH_start hX) S₁.hp h2' (by rfl) (by rfl) ?_
  repeat tb_rel
  refine w_While (BlkJ 196 108 y R M F st lim B l)
    B.length ⟨by rfl, by rfl, [], B, st, _, _, [], rfl, rfl, by rfl, I.ti, Sub.new Rl, S₁, upd_self _ _ _, .nil⟩ ?_
  rintro k m H₁ ⟨gs, gf, P, Sx, cur, tc, R', vs', eB, rfl, gb, tl, sub, S₂, hl', al⟩
  obtain ⟨t1', t2', fl', vs'', j2, j3, j4, j5⟩ := S₂.hd
  have hpos : ∀ b ∈ Sx, 0 < b.n := fun b hb => I.pos b (by rw [eB]; exact List.mem_append_right _ hb)
  repeat tb_rel
  refine w_field (gH_limit hX) S₂.hp j2 (by rfl) (by rfl) ?_
  repeat tb_rel
  refine if_dec (fun hlt => ?_) (fun hlt => ?_)
  · obtain ⟨b, r, rfl, rfl, tr⟩ := (tiles_lt tl hpos).1 hlt
    have ob := I.ok b (by rw [eB]; simp)
    obtain ⟨o1, o2, o3⟩ := ob.a
    obtain ⟨sz, fr, hd⟩ := ob.size
    have hn : P.length + (r.length + 1) ≤ 512 := by
      have h1 := tiles_len I.ti fun c hc => (I.ok c hc).n
      have h2 := I.s0
      have h3 := I.l1
      rw [eB, List.length_append, List.length_cons] at h1
      omega
    repeat tb_rel
    refine w_meth (mH_size_of hX) S₂.hp j2 (by rfl) ?_
    refine w_callK (mH_size_of hX).k ?_ (by kernel_rfl) (by kernel_rfl)
    repeat tb_rel
    refine w_call (c_size hX S₂ (by omega) (by omega) hd fun tq => ?_) (by decide)
    rw [sz]
    repeat tb_rel
    refine w_isValue ?_ (by with_unfolding_all rfl)
    repeat tb_rel
    refine w_meth (mH_is_free hX) S₂.hp j2 (by rfl) ?_
    refine w_callK (mH_is_free hX).k ?_ (by kernel_rfl) (by kernel_rfl)
    repeat tb_rel
    refine w_call (c_isfree hX S₂ (by omega) (by omega) ?_) (by decide)
    repeat tb_rel
    refine if_bool (p := b.d = none) (by rw [← fr]; simp) (fun hfree => ?_) (fun hused => ?_)
    · repeat tb_rel
      refine w_mList (S₂.get hl') PySem.F.slot_list_append PySem.F.type_list_append ?_
      refine w_callB (by intro _ e; cases e) ?_ (by kernel_rfl) (by kernel_rfl)
      repeat tb_rel
      refine w_Tuple ?_
      repeat tb_rel
      refine ⟨by rw [sizeLine_eq]; simp, fun t ht => ?_⟩
      have S₃ := S₂.new (ao := .tup [.int b.a tc, .int b.n tq, .none]) ht
      have Rt := S₂.fresh ht
      have hne : l ≠ t := fun q => by rw [← q, hl'] at Rt; cases Rt
      have hl3 : upd R' t (.tup [.int b.a tc, .int b.n tq, .none]) l = some (.list vs') := by rw [upd_ne hne]; exact hl'
      repeat tb_rel
      refine w_append (S₃.get hl3) (by have := al.len; show _ ≤ 16777216; omega) ?_
      have S₄ := S₃.set (ao := .list (vs' ++ [.ref t])) hl3
      have ts : TupSub R' (upd (upd R' t (.tup [.int b.a tc, .int b.n tq, .none])) l (.list (vs' ++ [.ref t]))) := (Sub.new Rt).tup.trans (TupSub.upd fun xs => by rw [hl3]; intro e; cases e)
      repeat tb_rel
      refine ⟨r.length, by simp, by with_unfolding_all assumption, by with_unfolding_all assumption, P ++ [b], r, b.a + b.n, _, _, _, by rw [eB]; simp, rfl, by rfl, tr, fun c co e => ?_, S₄, upd_self _ _ _,
        (al.mono (BkTup.mono ts)).snoc ⟨t, tc, tq, .none, rfl, ?_, by rw [hfree]; rfl⟩⟩
      · rw [upd_ne (fun q => by subst q; rw [Rl] at e; cases e)]
        exact Sub.new Rt _ _ (sub _ _ e)
      · rw [upd_ne (Ne.symm hne), upd_self]
    · obtain ⟨d, hdd⟩ := Option.ne_none_iff_exists'.mp hused
      have hMd : M (b.a / 4) = d := by have := ob.h; unfold Head at this; rw [hdd] at this; exact this.1
      repeat tb_rel
      refine w_mList (S₂.get hl') PySem.F.slot_list_append PySem.F.type_list_append ?_
      refine w_callB (by intro _ e; cases e) ?_ (by kernel_rfl) (by kernel_rfl)
      repeat tb_rel
      refine w_Tuple ?_
      repeat tb_rel
      refine w_meth (mH_descriptor hX) S₂.hp j2 (by rfl) ?_
      refine w_callK (mH_descriptor hX).k ?_ (by kernel_rfl) (by kernel_rfl)
      repeat tb_rel
      refine w_call (c_desc hX S₂ (by omega) (by omega) fun td => ?_) (by decide)
      rw [hMd]
      repeat tb_rel
      refine ⟨by rw [sizeLine_eq]; simp, fun t ht => ?_⟩
      have S₃ := S₂.new (ao := .tup [.int b.a tc, .int b.n tq, .int d td]) ht
      have Rt := S₂.fresh ht
      have hne : l ≠ t := fun q => by rw [← q, hl'] at Rt; cases Rt
      have hl3 : upd R' t (.tup [.int b.a tc, .int b.n tq, .int d td]) l = some (.list vs') := by rw [upd_ne hne]; exact hl'
      repeat tb_rel
      refine w_append (S₃.get hl3) (by have := al.len; show _ ≤ 16777216; omega) ?_
      have S₄ := S₃.set (ao := .list (vs' ++ [.ref t])) hl3
      have ts : TupSub R' (upd (upd R' t (.tup [.int b.a tc, .int b.n tq, .int d td])) l (.list (vs' ++ [.ref t]))) := (Sub.new Rt).tup.trans (TupSub.upd fun xs => by rw [hl3]; intro e; cases e)
      repeat tb_rel
      refine ⟨r.length, by simp, by with_unfolding_all assumption, by with_unfolding_all assumption, P ++ [b], r, b.a + b.n, _, _, _, by rw [eB]; simp, rfl, by rfl, tr, fun c co e => ?_, S₄, upd_self _ _ _,
        (al.mono (BkTup.mono ts)).snoc ⟨t, tc, tq, .int d td, rfl, ?_, by rw [hdd]; exact ⟨td, rfl⟩⟩⟩
      · rw [upd_ne (fun q => by subst q; rw [Rl] at e; cases e)]
        exact Sub.new Rt _ _ (sub _ _ e)
      · rw [upd_ne (Ne.symm hne), upd_self]
  · have := (tiles_lt tl hpos).2 hlt
    subst this
    rw [List.append_nil] at eB
    subst eB
    repeat tb_rel
    exact q _ R' l vs' sub S₂ hl' Rl al
end
end
section
section
variable {X : Fx} {H : Hp} (hX : IsK X)
include hX
variable {y : Yd} {R : Hp} {M : Int → Int} {F : List Int} {st lim : Int}
theorem fn_runs : FnOk X.K "free_runs" 207 := ⟨by rw [hX]; kernel_rfl, by rw [hX]; kernel_rfl⟩
theorem fn_sweep : FnOk X.K "sweep" 214 := ⟨by rw [hX]; kernel_rfl, by rw [hX]; kernel_rfl⟩
theorem sH_free : SetOk X.K 108 "free" := ⟨by rw [hX]; kernel_rfl, by rw [hX]; kernel_rfl, by rw [hX]; kernel_rfl, by rw [hX]; kernel_rfl⟩
theorem c_runs {Ls : Nat → List Int} {B : List Bk} {Q : Value → Hp → Prop} (S : HS 196 108 y R M F st lim H) (I : Inv M F Ls B st lim)
    (q : ∀ H' R' M' A t tf rl rs, Sub R R' → HS 196 108 y R' M' F st lim H' → SwA M B A M' st lim → R' t = some (.tup [.ref rl, .int (frd M B) tf]) → R' rl = some (.list rs) → All2 (RunTup R') rs (frees A) → Q (.ref t) H') :
    Spec X 5 (.ref 207) [.ref y.hp] H Q := by
  obtain ⟨t1, t2, fl, vs, h2, h3, h4, h5⟩ := S.hd
  have bl := b_len hX
  refine spec_fn (f := 207) ["heap"] (by rw [hX]; rfl) (by rw [hX]; rfl) (by rfl) (by rfl) (by rfl) (fun C => ?_)
  repeat tb_rel
  refine w_field (gH_memory hX) S.hp h2 (by rfl) (by rfl) ?_
  repeat tb_rel
  refine w_List ?_
  repeat tb_rel
  refine ⟨by rw [sizeLine_eq]; simp, fun rl hrl => ?_⟩
  have Rrl : R rl = none := S.fresh hrl
  have S₁ := S.new (ao := .list []) hrl
  have h2' : upd H rl (.list []) y.hd = some (.ns (heapF y.mm.a st lim fl t1 t2) 4) := by rw [upd_ne (fun q => by rw [← q, h2] at hrl; cases hrl)]; exact h2
  repeat tb_rel
  refine w_meth (mH_blocks hX) S₁.hp h2' (by rfl) ?_
  refine w_callK0 (mH_blocks hX).k ?_
  refine w_call (c_blocks hX S₁ I fun H₂ R₂ l vs₂ sub₂ S₂ hl nl al => ?_) (by decide)
  have hrl₂ : R₂ rl = some (.list []) := sub₂ _ _ (upd_self _ _ _)
  have hne : rl ≠ l := fun q => by rw [← q, upd_self] at nl; cases nl
  have Rl : R l = none := by have := nl; rwa [upd_ne (Ne.symm hne)] at this
  refine for_list (S₂.get hl) (.inr ⟨⟨_, _, _, rfl⟩, fun v hv => by obtain ⟨b, _, t, _, _, _, e, _⟩ := al.mem hv; exact ⟨t, e⟩⟩)
    (RunsJ 196 108 y R M F st lim B vs₂ rl)
    ⟨by rfl, by rfl, [], B, [], M, del R₂ l, [], st, 0, _, _, rfl, rfl, I.ti, ⟨rfl, fun _ h => (nomatch h), fun _ h => (nomatch h), fun _ h => (nomatch h), fun _ h => (nomatch h), fun _ _ => rfl, trivial⟩, fun c co e => ?_, S₂.del hl,
      al.mono (BkTup.mono (TupSub.del fun xs => by rw [hl]; intro e; cases e)), by rw [del_ne hne]; exact hrl₂, .nil, by rfl, by rfl, .inr ⟨fun _ h => (nomatch h), fun h => absurd rfl h⟩⟩ ?_ ?_
  · rw [del_ne (fun q => by subst q; rw [Rl] at e; cases e)]
    exact sub₂ _ _ (Sub.new Rrl _ _ e)
  · rintro i v h m H₃ hv ⟨gm, gr, P, Bs, A, M', R', rs, cur, bh, tf, tb, eB, rfl, tl, sw, sub, S₃, al₃, hrs, ar, gf, gb, hbh⟩
    obtain ⟨b, hb, t, ta, tn, dv, rfl, ht, hdv⟩ := al₃.get hv
    have eb : ∃ r, Bs = b :: r := by
      rw [eB, List.getElem?_append_right (Nat.le_refl _), Nat.sub_self] at hb
      cases Bs with
      | nil => simp at hb
      | cons c r => simp at hb; subst hb; exact ⟨r, rfl⟩
    obtain ⟨r, rfl⟩ := eb
    obtain ⟨rfl, tr⟩ := tl
    have ob := I.ok b (by rw [eB]; simp)
    obtain ⟨o1, o2, o3⟩ := ob.a
    have o4 := ob.n
    have o5 := ob.m
    obtain ⟨tm, hm⟩ := S₃.m.d
    have hread : M' ((b.a + 4) / 4) = M ((b.a + 4) / 4) := sw.m1 _ fun c hc _ => by
      have oc := I.ok c (by rw [eB]; exact List.mem_append_left _ hc)
      obtain ⟨c1, c2, c3⟩ := oc.a
      have c4 := oc.n
      have := (tiles_mid (by rw [← eB]; exact I.ti) (by rw [← eB]; exact I.pos)).2.2.1 c hc
      omega
    have hlen : rs.length ≤ 1000 := by
      have h1 := ar.len
      have h2 : (frees A).length ≤ A.length := List.length_filter_le _ _
      have h3 := tiles_len sw.ti fun c hc => by
        cases hd : c.d with
        | none => exact (sw.fr c hc hd).2.1
        | some d => exact (I.ok c (by rw [eB]; exact List.mem_append_left _ (sw.us c hc (by rw [hd]; simp)).1)).n
      have := I.s0
      omega
    refine w_unpack3 (S₃.get ht) ?_
    repeat tb_rel
    cases hbd : b.d with
    | none =>
      rw [hbd] at hdv
      have hdv : dv = .none := hdv
      subst hdv
      have hk : ¬ kp M b := fun h => h.1 hbd
      have efr : frd M (P ++ [b]) = frd M P := by rw [frd_snoc, if_neg (by rintro ⟨h, _⟩; exact h hbd)]; omega
      refine w_isNot (by rfl) ?_
      repeat tb_rel
      refine if_false ?_
      refine if_false ?_
      repeat tb_rel
      refine w_isNot (by rfl) ?_
      repeat tb_rel
      refine if_false ?_
      repeat tb_rel
      refine w_callB (by intro _ e; cases e) ?_ (by kernel_rfl) (by kernel_rfl)
      repeat tb_rel
      refine w_len (S₃.get hrs) (by omega) fun tq => ?_
      repeat tb_rel
      refine if_dec (fun hpos => ?_) (fun hpos => ?_)
      · repeat tb_rel
        refine if_beq (fun hbe => ?_) (fun hbe => ?_)
        · repeat tb_rel
          obtain ⟨A', c, rfl, hcd, hbc⟩ | ⟨_, hlt⟩ := hbh
          case inr => exact absurd (hlt (fun e => by rw [e] at ar; have := ar.len; simp only [List.length_nil] at this; omega)) (by omega)
          obtain ⟨sw', hca⟩ := sw.join hk hcd o4 o5
          rw [frees_snoc_free hcd] at ar
          obtain ⟨rs', vc, rfl, ar', tc, tca, tcn, rfl, htc⟩ := ar.unsnoc
          have htcl : tc ≠ rl := fun q => by rw [q, hrs] at htc; cases htc
          refine if_true ?_
          repeat tb_rel
          refine w_mList (S₃.get hrs) PySem.F.slot_list_pop PySem.F.type_list_pop ?_
          refine w_callB0 (by intro _ e; cases e) ?_
          refine w_pop (S₃.get hrs) (by rw [sizeLine_eq]; simp only [List.length_append, List.length_cons, List.length_nil] at hlen; omega) ?_
          have S₄ := S₃.set (ao := .list rs') hrs
          refine w_unpack2 (S₄.get (by rw [upd_ne htcl]; exact htc)) ?_
          repeat tb_rel
          refine w_mList (S₄.get (upd_self _ _ _)) PySem.F.slot_list_append PySem.F.type_list_append ?_
          refine w_callB (by intro _ e; cases e) ?_ (by kernel_rfl) (by kernel_rfl)
          repeat tb_rel
          refine w_Tuple ?_
          repeat tb_rel
          rename_i tsum
          refine ⟨by rw [sizeLine_eq]; simp, fun t₂ ht₂ => ?_⟩
          have S₅ := S₄.new (ao := .tup [.int c.a tca, .int (c.n + b.n) tsum]) ht₂
          have Rt := S₄.fresh ht₂
          have hne₂ : rl ≠ t₂ := fun q => by rw [← q, upd_self] at Rt; cases Rt
          have hrs₅ : upd (upd R' rl (.list rs')) t₂ (.tup [.int c.a tca, .int (c.n + b.n) tsum]) rl = some (.list rs') := by rw [upd_ne hne₂, upd_self]
          repeat tb_rel
          refine w_append (S₅.get hrs₅) (by rw [sizeLine_eq]; simp only [List.length_append, List.length_cons, List.length_nil] at hlen; omega) ?_
          have S₆ := S₅.set (ao := .list (rs' ++ [.ref t₂])) hrs₅
          have ts₀ : TupSub R' (upd R' rl (.list rs')) := TupSub.upd fun xs => by rw [hrs]; intro e; cases e
          have ts : TupSub R' (upd (upd (upd R' rl (.list rs')) t₂ (.tup [.int c.a tca, .int (c.n + b.n) tsum])) rl (.list (rs' ++ [.ref t₂]))) := (ts₀.trans (Sub.new Rt).tup).trans (TupSub.upd fun xs => by rw [hrs₅]; intro e; cases e)
          repeat tb_rel
          refine ⟨by with_unfolding_all assumption, by with_unfolding_all assumption, P ++ [b], r, _, M', _, rs' ++ [.ref t₂], b.a + b.n, b.a + b.n, _, _, by rw [eB]; simp, by simp, tr, sw', fun e eo he => ?_, S₆, al₃.mono (BkTup.mono ts), upd_self _ _ _, ?_, by rw [efr]; ktr_rel, by rfl, .inl ⟨A', _, rfl, rfl, rfl⟩⟩
          · have hr : e ≠ rl := fun q => by subst q; rw [Rrl] at he; cases he
            rw [upd_ne hr]
            refine Sub.new Rt _ _ ?_
            rw [upd_ne hr]; exact sub _ _ he
          · rw [frees_snoc_free rfl]
            exact (ar'.mono (RunTup.mono ts)).snoc ⟨t₂, tca, tsum, rfl, by rw [upd_ne (Ne.symm hne₂), upd_self]⟩
        · refine if_false ?_
          have hlast : ∀ l, A.getLast? = some l → l.d ≠ none := by
            rcases hbh with ⟨A', c, rfl, hcd, e⟩ | ⟨h, _⟩
            · exact absurd e hbe
            · exact h
          have sw' := sw.start hk rfl hlast ob.a o4 o5
          repeat tb_rel
          refine w_mList (S₃.get hrs) PySem.F.slot_list_append PySem.F.type_list_append ?_
          refine w_callB (by intro _ e; cases e) ?_ (by kernel_rfl) (by kernel_rfl)
          repeat tb_rel
          refine w_Tuple ?_
          repeat tb_rel
          refine ⟨by rw [sizeLine_eq]; simp, fun t₂ ht₂ => ?_⟩
          have S₄ := S₃.new (ao := .tup [.int b.a ta, .int b.n tn]) ht₂
          have Rt := S₃.fresh ht₂
          have hne₂ : rl ≠ t₂ := fun q => by rw [← q, hrs] at Rt; cases Rt
          have hrs₄ : upd R' t₂ (.tup [.int b.a ta, .int b.n tn]) rl = some (.list rs) := by rw [upd_ne hne₂]; exact hrs
          repeat tb_rel
          refine w_append (S₄.get hrs₄) (by rw [sizeLine_eq]; omega) ?_
          have S₅ := S₄.set (ao := .list (rs ++ [.ref t₂])) hrs₄
          have ts : TupSub R' (upd (upd R' t₂ (.tup [.int b.a ta, .int b.n tn])) rl (.list (rs ++ [.ref t₂]))) := (Sub.new Rt).tup.trans (TupSub.upd fun xs => by rw [hrs₄]; intro e; cases e)
          repeat tb_rel
          refine ⟨by with_unfolding_all assumption, by with_unfolding_all assumption, P ++ [b], r, _, M', _, rs ++ [.ref t₂], b.a + b.n, b.a + b.n, _, _, by rw [eB]; simp, by simp, tr, sw', fun c co e => ?_, S₅, al₃.mono (BkTup.mono ts), upd_self _ _ _, ?_, by rw [efr]; ktr_rel, by rfl, .inl ⟨A, _, rfl, rfl, rfl⟩⟩
          · rw [upd_ne (fun q => by subst q; rw [Rrl] at e; cases e)]; exact Sub.new Rt _ _ (sub _ _ e)
          · rw [frees_snoc_free rfl]
            exact (ar.mono (RunTup.mono ts)).snoc ⟨t₂, ta, tn, rfl, by rw [upd_ne (Ne.symm hne₂), upd_self]⟩
      · refine if_false ?_
        have hlast : ∀ l, A.getLast? = some l → l.d ≠ none := by
          rcases hbh with ⟨A', c, rfl, hcd, e⟩ | ⟨h, _⟩
          · rw [frees_snoc_free hcd] at ar
            have := ar.len
            simp only [List.length_append, List.length_cons, List.length_nil] at this
            exact absurd hpos (by omega)
          · exact h
        have sw' := sw.start hk rfl hlast ob.a o4 o5
        repeat tb_rel
        refine w_mList (S₃.get hrs) PySem.F.slot_list_append PySem.F.type_list_append ?_
        refine w_callB (by intro _ e; cases e) ?_ (by kernel_rfl) (by kernel_rfl)
        repeat tb_rel
        refine w_Tuple ?_
        repeat tb_rel
        refine ⟨by rw [sizeLine_eq]; simp, fun t₂ ht₂ => ?_⟩
        have S₄ := S₃.new (ao := .tup [.int b.a ta, .int b.n tn]) ht₂
        have Rt := S₃.fresh ht₂
        have hne₂ : rl ≠ t₂ := fun q => by rw [← q, hrs] at Rt; cases Rt
        have hrs₄ : upd R' t₂ (.tup [.int b.a ta, .int b.n tn]) rl = some (.list rs) := by rw [upd_ne hne₂]; exact hrs
        repeat tb_rel
        refine w_append (S₄.get hrs₄) (by rw [sizeLine_eq]; omega) ?_
        have S₅ := S₄.set (ao := .list (rs ++ [.ref t₂])) hrs₄
        have ts : TupSub R' (upd (upd R' t₂ (.tup [.int b.a ta, .int b.n tn])) rl (.list (rs ++ [.ref t₂]))) := (Sub.new Rt).tup.trans (TupSub.upd fun xs => by rw [hrs₄]; intro e; cases e)
        repeat tb_rel
        refine ⟨by with_unfolding_all assumption, by with_unfolding_all assumption, P ++ [b], r, _, M', _, rs ++ [.ref t₂], b.a + b.n, b.a + b.n, _, _, by rw [eB]; simp, by simp, tr, sw', fun c co e => ?_, S₅, al₃.mono (BkTup.mono ts), upd_self _ _ _, ?_, by rw [efr]; ktr_rel, by rfl, .inl ⟨A, _, rfl, rfl, rfl⟩⟩
        · rw [upd_ne (fun q => by subst q; rw [Rrl] at e; cases e)]; exact Sub.new Rt _ _ (sub _ _ e)
        · rw [frees_snoc_free rfl]
          exact (ar.mono (RunTup.mono ts)).snoc ⟨t₂, ta, tn, rfl, by rw [upd_ne (Ne.symm hne₂), upd_self]⟩
    | some d =>
      rw [hbd] at hdv
      obtain ⟨td, rfl⟩ : ∃ td, dv = .int d td := hdv
      refine w_isNot (by rfl) ?_
      repeat tb_rel
      refine if_true ?_
      repeat tb_rel
      refine w_meth (mM_word hX) S₃.m.a hm (by rfl) ?_
      refine w_callK (mM_word hX).k ?_ (by kernel_rfl) (by kernel_rfl)
      repeat tb_rel
      refine w_call (c_word hX S₃.m (by omega) (by omega) fun t => ?_) (by decide)
      rw [hread]
      repeat tb_rel
      refine if_bne (fun hmk => ?_) (fun hmk => ?_)
      · have hk : kp M b := ⟨by rw [hbd]; simp, hmk⟩
        have efr : frd M (P ++ [b]) = frd M P := by rw [frd_snoc, if_neg (by rintro ⟨_, h⟩; exact h hk)]; omega
        repeat tb_rel
        refine if_true ?_
        repeat tb_rel
        refine w_meth (mM_put hX) S₃.m.a hm (by rfl) ?_
        refine w_callK (mM_put hX).k ?_ (by kernel_rfl) (by kernel_rfl)
        repeat tb_rel
        refine w_call (c_putH hX S₃ (by omega) (by omega) fun H₄ S₄ => ?_) (by decide)
        repeat tb_rel
        refine ⟨by with_unfolding_all assumption, by with_unfolding_all assumption, P ++ [b], r, _, _, R', rs, b.a + b.n, bh, _, _, by rw [eB]; simp, by simp, tr, sw.keep rfl hk, sub, S₄, al₃, hrs, by rw [frees_snoc_used hk.1]; exact ar, by rw [efr]; ktr_rel, by with_unfolding_all assumption,
          .inr ⟨fun l hl => by rw [getLast_snoc] at hl; cases hl; exact hk.1, fun hne => ?_⟩⟩
        rw [frees_snoc_used hk.1] at hne
        rcases hbh with ⟨_, _, _, _, e⟩ | ⟨_, h⟩
        · omega
        · have := h hne; omega
      · have hk : ¬ kp M b := fun h => h.2 hmk
        have efr : frd M (P ++ [b]) = frd M P + b.n := by rw [frd_snoc, if_pos ⟨by rw [hbd]; simp, hk⟩]
        refine if_false ?_
        repeat tb_rel
        refine w_isNot (by rfl) ?_
        repeat tb_rel
        refine if_true ?_
        repeat tb_rel
        refine w_callB (by intro _ e; cases e) ?_ (by kernel_rfl) (by kernel_rfl)
        repeat tb_rel
        refine w_len (S₃.get hrs) (by omega) fun tq => ?_
        repeat tb_rel
        refine if_dec (fun hpos => ?_) (fun hpos => ?_)
        · repeat tb_rel
          refine if_beq (fun hbe => ?_) (fun hbe => ?_)
          · repeat tb_rel
            obtain ⟨A', c, rfl, hcd, hbc⟩ | ⟨_, hlt⟩ := hbh
            case inr => exact absurd (hlt (fun e => by rw [e] at ar; have := ar.len; simp only [List.length_nil] at this; omega)) (by omega)
            obtain ⟨sw', hca⟩ := sw.join hk hcd o4 o5
            rw [frees_snoc_free hcd] at ar
            obtain ⟨rs', vc, rfl, ar', tc, tca, tcn, rfl, htc⟩ := ar.unsnoc
            have htcl : tc ≠ rl := fun q => by rw [q, hrs] at htc; cases htc
            refine if_true ?_
            repeat tb_rel
            refine w_mList (S₃.get hrs) PySem.F.slot_list_pop PySem.F.type_list_pop ?_
            refine w_callB0 (by intro _ e; cases e) ?_
            refine w_pop (S₃.get hrs) (by rw [sizeLine_eq]; simp only [List.length_append, List.length_cons, List.length_nil] at hlen; omega) ?_
            have S₄ := S₃.set (ao := .list rs') hrs
            refine w_unpack2 (S₄.get (by rw [upd_ne htcl]; exact htc)) ?_
            repeat tb_rel
            refine w_mList (S₄.get (upd_self _ _ _)) PySem.F.slot_list_append PySem.F.type_list_append ?_
            refine w_callB (by intro _ e; cases e) ?_ (by kernel_rfl) (by kernel_rfl)
            repeat tb_rel
            refine w_Tuple ?_
            repeat tb_rel
            rename_i tsum
            refine ⟨by rw [sizeLine_eq]; simp, fun t₂ ht₂ => ?_⟩
            have S₅ := S₄.new (ao := .tup [.int c.a tca, .int (c.n + b.n) tsum]) ht₂
            have Rt := S₄.fresh ht₂
            have hne₂ : rl ≠ t₂ := fun q => by rw [← q, upd_self] at Rt; cases Rt
            have hrs₅ : upd (upd R' rl (.list rs')) t₂ (.tup [.int c.a tca, .int (c.n + b.n) tsum]) rl = some (.list rs') := by rw [upd_ne hne₂, upd_self]
            repeat tb_rel
            refine w_append (S₅.get hrs₅) (by rw [sizeLine_eq]; simp only [List.length_append, List.length_cons, List.length_nil] at hlen; omega) ?_
            have S₆ := S₅.set (ao := .list (rs' ++ [.ref t₂])) hrs₅
            have ts₀ : TupSub R' (upd R' rl (.list rs')) := TupSub.upd fun xs => by rw [hrs]; intro e; cases e
            have ts : TupSub R' (upd (upd (upd R' rl (.list rs')) t₂ (.tup [.int c.a tca, .int (c.n + b.n) tsum])) rl (.list (rs' ++ [.ref t₂]))) := (ts₀.trans (Sub.new Rt).tup).trans (TupSub.upd fun xs => by rw [hrs₅]; intro e; cases e)
            repeat tb_rel
            refine ⟨by with_unfolding_all assumption, by with_unfolding_all assumption, P ++ [b], r, _, M', _, rs' ++ [.ref t₂], b.a + b.n, b.a + b.n, _, _, by rw [eB]; simp, by simp, tr, sw', fun e eo he => ?_, S₆, al₃.mono (BkTup.mono ts), upd_self _ _ _, ?_, by rw [efr]; ktr_rel, by rfl, .inl ⟨A', _, rfl, rfl, rfl⟩⟩
            · have hr : e ≠ rl := fun q => by subst q; rw [Rrl] at he; cases he
              rw [upd_ne hr]
              refine Sub.new Rt _ _ ?_
              rw [upd_ne hr]; exact sub _ _ he
            · rw [frees_snoc_free rfl]
              exact (ar'.mono (RunTup.mono ts)).snoc ⟨t₂, tca, tsum, rfl, by rw [upd_ne (Ne.symm hne₂), upd_self]⟩
          · refine if_false ?_
            have hlast : ∀ l, A.getLast? = some l → l.d ≠ none := by
              rcases hbh with ⟨A', c, rfl, hcd, e⟩ | ⟨h, _⟩
              · exact absurd e hbe
              · exact h
            have sw' := sw.start hk rfl hlast ob.a o4 o5
            repeat tb_rel
            refine w_mList (S₃.get hrs) PySem.F.slot_list_append PySem.F.type_list_append ?_
            refine w_callB (by intro _ e; cases e) ?_ (by kernel_rfl) (by kernel_rfl)
            repeat tb_rel
            refine w_Tuple ?_
            repeat tb_rel
            refine ⟨by rw [sizeLine_eq]; simp, fun t₂ ht₂ => ?_⟩
            have S₄ := S₃.new (ao := .tup [.int b.a ta, .int b.n tn]) ht₂
            have Rt := S₃.fresh ht₂
            have hne₂ : rl ≠ t₂ := fun q => by rw [← q, hrs] at Rt; cases Rt
            have hrs₄ : upd R' t₂ (.tup [.int b.a ta, .int b.n tn]) rl = some (.list rs) := by rw [upd_ne hne₂]; exact hrs
            repeat tb_rel
            refine w_append (S₄.get hrs₄) (by rw [sizeLine_eq]; omega) ?_
            have S₅ := S₄.set (ao := .list (rs ++ [.ref t₂])) hrs₄
            have ts : TupSub R' (upd (upd R' t₂ (.tup [.int b.a ta, .int b.n tn])) rl (.list (rs ++ [.ref t₂]))) := (Sub.new Rt).tup.trans (TupSub.upd fun xs => by rw [hrs₄]; intro e; cases e)
            repeat tb_rel
            refine ⟨by with_unfolding_all assumption, by with_unfolding_all assumption, P ++ [b], r, _, M', _, rs ++ [.ref t₂], b.a + b.n, b.a + b.n, _, _, by rw [eB]; simp, by simp, tr, sw', fun c co e => ?_, S₅, al₃.mono (BkTup.mono ts), upd_self _ _ _, ?_, by rw [efr]; ktr_rel, by rfl, .inl ⟨A, _, rfl, rfl, rfl⟩⟩
            · rw [upd_ne (fun q => by subst q; rw [Rrl] at e; cases e)]; exact Sub.new Rt _ _ (sub _ _ e)
            · rw [frees_snoc_free rfl]
              exact (ar.mono (RunTup.mono ts)).snoc ⟨t₂, ta, tn, rfl, by rw [upd_ne (Ne.symm hne₂), upd_self]⟩
        · refine if_false ?_
          have hlast : ∀ l, A.getLast? = some l → l.d ≠ none := by
            rcases hbh with ⟨A', c, rfl, hcd, e⟩ | ⟨h, _⟩
            · rw [frees_snoc_free hcd] at ar
              have := ar.len
              simp only [List.length_append, List.length_cons, List.length_nil] at this
              exact absurd hpos (by omega)
            · exact h
          have sw' := sw.start hk rfl hlast ob.a o4 o5
          repeat tb_rel
          refine w_mList (S₃.get hrs) PySem.F.slot_list_append PySem.F.type_list_append ?_
          refine w_callB (by intro _ e; cases e) ?_ (by kernel_rfl) (by kernel_rfl)
          repeat tb_rel
          refine w_Tuple ?_
          repeat tb_rel
          refine ⟨by rw [sizeLine_eq]; simp, fun t₂ ht₂ => ?_⟩
          have S₄ := S₃.new (ao := .tup [.int b.a ta, .int b.n tn]) ht₂
          have Rt := S₃.fresh ht₂
          have hne₂ : rl ≠ t₂ := fun q => by rw [← q, hrs] at Rt; cases Rt
          have hrs₄ : upd R' t₂ (.tup [.int b.a ta, .int b.n tn]) rl = some (.list rs) := by rw [upd_ne hne₂]; exact hrs
          repeat tb_rel
          refine w_append (S₄.get hrs₄) (by rw [sizeLine_eq]; omega) ?_
          have S₅ := S₄.set (ao := .list (rs ++ [.ref t₂])) hrs₄
          have ts : TupSub R' (upd (upd R' t₂ (.tup [.int b.a ta, .int b.n tn])) rl (.list (rs ++ [.ref t₂]))) := (Sub.new Rt).tup.trans (TupSub.upd fun xs => by rw [hrs₄]; intro e; cases e)
          repeat tb_rel
          refine ⟨by with_unfolding_all assumption, by with_unfolding_all assumption, P ++ [b], r, _, M', _, rs ++ [.ref t₂], b.a + b.n, b.a + b.n, _, _, by rw [eB]; simp, by simp, tr, sw', fun c co e => ?_, S₅, al₃.mono (BkTup.mono ts), upd_self _ _ _, ?_, by rw [efr]; ktr_rel, by rfl, .inl ⟨A, _, rfl, rfl, rfl⟩⟩
          · rw [upd_ne (fun q => by subst q; rw [Rrl] at e; cases e)]; exact Sub.new Rt _ _ (sub _ _ e)
          · rw [frees_snoc_free rfl]
            exact (ar.mono (RunTup.mono ts)).snoc ⟨t₂, ta, tn, rfl, by rw [upd_ne (Ne.symm hne₂), upd_self]⟩
  · intro m H₃ hJ hl'
    obtain ⟨gm, gr, P, Bs, A, M', R', rs, cur, bh, tf, tb, eB, hP, tl, sw, sub, S₃, al₃, hrs, ar, gf, gb, hbh⟩ := hJ
    have R'l := S₃.fresh hl'
    have eBs : Bs = [] := by
      have h1 := al₃.len
      rw [eB, List.length_append] at h1
      exact List.eq_nil_of_length_eq_zero (by omega)
    subst eBs
    rw [List.append_nil] at eB
    subst eB
    cases tl
    have S₄ := S₃.new (ao := .list vs₂) hl'
    repeat tb_rel
    refine w_Tuple ?_
    repeat tb_rel
    refine ⟨by rw [sizeLine_eq]; simp, fun t ht => ?_⟩
    have S₅ := S₄.new (ao := .tup [.ref rl, .int (frd M B) tf]) ht
    have Rt := S₄.fresh ht
    refine q _ _ M' A t tf rl rs (sub.trans ((Sub.new R'l).trans (Sub.new Rt))) S₅ sw (upd_self _ _ _) (Sub.new Rt _ _ (Sub.new R'l _ _ hrs)) (ar.mono (RunTup.mono ((Sub.new R'l).trans (Sub.new Rt)).tup))
end
end
section
section
variable {X : Fx} {H : Hp} (hX : IsK X)
include hX
variable {y : Yd} {R : Hp} {M : Int → Int} {F : List Int} {st lim : Int}
theorem c_sweep {Ls : Nat → List Int} {B : List Bk} {Q : Value → Hp → Prop} (S : HS 196 108 y R M F st lim H) (I : Inv M F Ls B st lim)
    (q : ∀ H' R' M' F' Ls' A t, Sub R R' → HS 196 108 y R' M' F' st lim H' → Swept M B M' F' Ls' A st lim → Q (.int (frd M B) t) H') :
    Spec X 6 (.ref 214) [.ref y.hp] H Q := by
  have bl := b_len hX
  have br := b_range hX
  have nr := (fn_runs hX).n
  obtain ⟨tL, nL⟩ := g_LISTS hX
  refine spec_fn (f := 214) ["heap"] (by rw [hX]; rfl) (by rw [hX]; rfl) (by rfl) (by rfl) (by rfl) (fun C => ?_)
  repeat tb_rel
  refine w_callK (fn_runs hX).k ?_ (by kernel_rfl) (by kernel_rfl)
  repeat tb_rel
  refine w_call (c_runs hX S I fun H₁ R₁ M₁ A t tf rl rs sub S₁ sw ht hrs ar => ?_) (by decide)
  refine w_unpack2 (S₁.get ht) ?_
  repeat tb_rel
  refine w_List ?_
  repeat tb_rel
  rename_i tz
  refine ⟨by rw [sizeLine_eq]; simp, fun d hd => ?_⟩
  repeat tb_rel
  have S₂ := S₁.add (ao := .list [.int 0 tz]) hd
  refine w_mulL (upd_self _ _ _) (by decide) (by decide) (by show 1 * 4 ≤ _; decide) fun d₂ hd₂ => ?_
  have S₃ := S₂.add (ao := .list (List.replicate (Int.toNat 4) [.int 0 tz]).flatten) hd₂
  obtain ⟨t1, t2, fl, vs, h2, h3, h4, h5⟩ := S₃.hd
  repeat tb_rel
  refine w_reset S₃.hp h2 (by rfl) (by decide) (sH_free hX).s (sH_free hX).p (sH_free hX).t (sH_free hX).h ?_
  have S₄ := S₃.refree (F' := [0, 0, 0, 0]) h2 (upd_self _ _ _) (by
    have := S₂.fresh hd₂
    exact this) ⟨rfl, fun i k hk => by
      match i, hk with
      | 0, hk => cases hk; exact ⟨_, rfl⟩
      | 1, hk => cases hk; exact ⟨_, rfl⟩
      | 2, hk => cases hk; exact ⟨_, rfl⟩
      | 3, hk => cases hk; exact ⟨_, rfl⟩
      | n + 4, hk => simp at hk⟩
  repeat tb_rel
  refine w_callB (by intro _ e; cases e) ?_ (by kernel_rfl) (by kernel_rfl)
  repeat tb_rel
  refine w_callB (by intro _ e; cases e) ?_ (by kernel_rfl) (by kernel_rfl)
  repeat tb_rel
  have hz := ar.len
  have okA : ∀ c ∈ A, OkA c.a ∧ 16 ≤ c.n ∧ c.n % 16 = 0 := fun c hc => by
    cases hd : c.d with
    | none => exact sw.fr c hc hd
    | some d => have := I.ok c (sw.us c hc (by rw [hd]; simp)).1; exact ⟨this.a, this.n, this.m⟩
  have pos : ∀ c ∈ A, 0 < c.n := fun c hc => by have := (okA c hc).2.1; omega
  have bd := (tiles_bd sw.ti pos).2
  have s0 := I.s0
  have l1 := I.l1
  have hlen : rs.length ≤ 1000 := by
    have h2 : (frees A).length ≤ A.length := List.length_filter_le _ _
    have h3 := tiles_len sw.ti fun c hc => (okA c hc).2.1
    omega
  refine w_len (S₄.get hrs) (by omega) fun tq => ?_
  repeat tb_rel
  refine w_range3 (by decide) noPylong_m1 fun r hr => ?_
  refine for_range (upd_self _ _ _) (r_small (by omega) (by omega) (by omega) (by omega) (.inl rfl) (by decide)) rs.length (by rw [show (-1 : Int) = -1 from rfl, rs_down (by omega)]; omega)
    (fun i m H => m "heap" = some (.ref y.hp) ∧ m "runs" = some (.ref rl) ∧ m "freed" = some (.int (frd M B) tf) ∧ ∃ G₁ G₂ M₂ F₂ Ls₂, frees A = G₁ ++ G₂ ∧ G₁.length = rs.length - i ∧ HS 196 108 y R₁ M₂ F₂ st lim H ∧ SwF M₁ G₂ M₂ F₂ Ls₂)
    ⟨by rfl, by rfl, by rfl, frees A, [], M₁, _, _, by simp, by omega, S₄.add hr, SwF.nil M₁⟩ (fun i ti h m H hi hJ => ?_) (fun m H hJ => ?_) (by rfl) (by rfl) (by rfl)
  · obtain ⟨gh, gr, gf, G₁, G₂, M₂, F₂, Ls₂, eG, hG, S₅, sf⟩ := hJ
    have hne : G₁ ≠ [] := fun e => by rw [e] at hG; simp only [List.length_nil] at hG; omega
    obtain ⟨G₁', g, rfl⟩ : ∃ G' g, G₁ = G' ++ [g] := ⟨G₁.dropLast, G₁.getLast hne, (List.dropLast_concat_getLast hne).symm⟩
    have hidx : (frees A)[rs.length - 1 - i]? = some g := by
      rw [eG]
      simp only [List.length_append, List.length_cons, List.length_nil] at hG
      rw [List.append_assoc, List.getElem?_append_right (by omega)]
      have : rs.length - 1 - i - G₁'.length = 0 := by omega
      rw [this]; rfl
    obtain ⟨v, hv, tg, tga, tgn, rfl, htg⟩ := ar.getR hidx
    have hgm : g ∈ frees A := by rw [eG]; simp
    obtain ⟨hgA, hgd⟩ := mem_frees.mp hgm
    obtain ⟨⟨o1, o2, o3⟩, o4, o5⟩ := okA g hgA
    have hgb := bd g hgA
    obtain ⟨t1', t2', fl', vs', j2, j3, j4, j5⟩ := S₅.hd
    have hidx' : ((rs.length : Int) - 1 + (i : Int) * -1).toNat = rs.length - 1 - i := by omega
    repeat tb_rel
    refine w_meth (mH_put_free hX) S₅.hp j2 (by rfl) ?_
    refine w_callK (mH_put_free hX).k ?_ (by kernel_rfl) (by kernel_rfl)
    repeat tb_rel
    refine w_subL (S₅.get hrs) (by omega) (by omega) (by rw [hidx']; exact hv) ?_ (by with_unfolding_all rfl)
    repeat tb_rel
    refine w_subT (S₅.get htg) (by decide) (by decide) (by rfl) ?_ (by with_unfolding_all rfl)
    repeat tb_rel
    refine w_subL (S₅.get hrs) (by omega) (by omega) (by rw [hidx']; exact hv) ?_ (by with_unfolding_all rfl)
    repeat tb_rel
    refine w_subT (S₅.get htg) (by decide) (by decide) (by rfl) ?_ (by with_unfolding_all rfl)
    repeat tb_rel
    refine w_call (c_putfree hX S₅ sf.fl.len (by omega) (by omega) fun H₆ S₆ => ?_) (by decide)
    obtain ⟨Ls₃, sf'⟩ := sf.cons (g := g) ⟨o1, o2, o3⟩ o4 o5 (by omega) (frees_apart sw.ti pos eG) (fun c hc => (okA c (mem_frees.mp (by rw [eG]; exact List.mem_append_right _ hc)).1).1)
    repeat tb_rel
    exact ⟨gh, gr, gf, G₁', g :: G₂, _, _, Ls₃, by rw [eG]; simp, by simp only [List.length_append, List.length_cons, List.length_nil] at hG; omega, S₆, sf'⟩
  · obtain ⟨gh, gr, gf, G₁, G₂, M₂, F₂, Ls₂, eG, hG, S₅, sf⟩ := hJ
    have : G₁ = [] := List.eq_nil_of_length_eq_zero (by omega)
    subst this
    rw [List.nil_append] at eG
    subst eG
    repeat tb_rel
    exact q _ R₁ M₂ F₂ Ls₂ A _ sub S₅ (swept I sw sf)
end
end
section
section
variable {X : Fx} {H : Hp} (hX : IsK X)
include hX
theorem fn_pick : FnOk X.K "_law_pick" 221 := ⟨by rw [hX]; kernel_rfl, by rw [hX]; kernel_rfl⟩
theorem fn_area : FnOk X.K "_law_area" 226 := ⟨by rw [hX]; kernel_rfl, by rw [hX]; kernel_rfl⟩
theorem fn_lblock : FnOk X.K "_law_block" 233 := ⟨by rw [hX]; kernel_rfl, by rw [hX]; kernel_rfl⟩
theorem fn_Memory : FnOk X.K "Memory" 196 := ⟨by rw [hX]; kernel_rfl, by rw [hX]; kernel_rfl⟩
theorem fn_Heap : FnOk X.K "Heap" 108 := ⟨by rw [hX]; kernel_rfl, by rw [hX]; kernel_rfl⟩
theorem sM_size : SetOk X.K 196 "size" := ⟨by rw [hX]; kernel_rfl, by rw [hX]; kernel_rfl, by rw [hX]; kernel_rfl, by rw [hX]; kernel_rfl⟩
theorem sM_words : SetOk X.K 196 "words" := ⟨by rw [hX]; kernel_rfl, by rw [hX]; kernel_rfl, by rw [hX]; kernel_rfl, by rw [hX]; kernel_rfl⟩
theorem sH_memory : SetOk X.K 108 "memory" := ⟨by rw [hX]; kernel_rfl, by rw [hX]; kernel_rfl, by rw [hX]; kernel_rfl, by rw [hX]; kernel_rfl⟩
theorem sH_start : SetOk X.K 108 "start" := ⟨by rw [hX]; kernel_rfl, by rw [hX]; kernel_rfl, by rw [hX]; kernel_rfl, by rw [hX]; kernel_rfl⟩
theorem sH_limit : SetOk X.K 108 "limit" := ⟨by rw [hX]; kernel_rfl, by rw [hX]; kernel_rfl, by rw [hX]; kernel_rfl, by rw [hX]; kernel_rfl⟩
theorem c_pick {hand cl : Addr} {R : Hp} {n : Int} {tn : Tok} {Q : Value → Hp → Prop} (hh : HandIs hand cl R) (sub : Sub R H) (n1 : 1 ≤ n) (n2 : n ≤ 1000)
    (q : ∀ k t L, 0 ≤ k → k < n → HandIs hand cl (upd R hand (.list L)) → Q (.int k t) (upd H hand (.list L))) : Spec X 1 (.ref 221) [.ref hand, .int n tn] H Q := by
  obtain ⟨xs, L, hL, hv, hne⟩ := hh
  obtain ⟨i, d, s, t1, t2, t3, rfl, i0, i1, d0, s0, s1⟩ := hv.h
  have bl := b_len hX
  have hH := sub _ _ hL
  have hC := sub _ _ hv.c
  have hx := hv.l
  have nd : Builtin.divisionGoesByPylong d n = false := noPylong_of (by omega) (by omega)
  refine spec_fn (f := 221) ["hand", "limit"] (by rw [hX]; rfl) (by rw [hX]; rfl) (by rfl) (by rfl) (by rfl) (fun C => ?_)
  repeat tb_rel
  refine w_subL hH (by decide) (by decide) (by rfl) ?_ (by with_unfolding_all rfl)
  repeat tb_rel
  refine if_beq (fun hd => ?_) (fun hd => ?_)
  · repeat tb_rel
    refine w_subL hH (by decide) (by decide) (by rfl) ?_ (by with_unfolding_all rfl)
    repeat tb_rel
    refine w_callB (by intro _ e; cases e) ?_ (by kernel_rfl) (by kernel_rfl)
    repeat tb_rel
    refine w_subL hH (by decide) (by decide) (by rfl) ?_ (by with_unfolding_all rfl)
    repeat tb_rel
    refine w_len hC (by omega) fun tq => ?_
    repeat tb_rel
    refine if_beq (fun hi => ?_) (fun hi => ?_)
    · repeat tb_rel
      refine w_subL hH (by decide) (by decide) (by rfl) ?_ (by with_unfolding_all rfl)
      repeat tb_rel
      refine w_mul (fun _ => ?_) (.of_right (by decide))
      repeat tb_rel
      refine w_fmod (fun ts => ?_) (by decide)
      rw [Int.fmod_eq_emod_of_nonneg _ (by decide)]
      repeat tb_rel
      refine w_lset hH (by decide) (by decide) (by simp) ?_
      repeat tb_rel
      refine w_subL (upd_self _ _ _) (by decide) (by decide) (by rfl) ?_ (by with_unfolding_all rfl)
      repeat tb_rel
      refine w_fdiv (fun _ => ?_) (by decide) (noPylong_of (by decide) (by decide))
      repeat tb_rel
      refine w_fmod (fun tk => ?_) (by omega)
      rw [Int.fmod_eq_emod_of_nonneg _ (by omega)]
      exact q _ tk _ (Int.emod_nonneg _ (by omega)) (Int.emod_lt_of_pos _ (by omega)) (HandIs.turn hL hv hne i d (s * 48271 % 2147483647) t1 t2 ts rfl i0 i1 d0 (Int.emod_nonneg _ (by decide)) (Int.emod_lt_of_pos _ (by decide)))
    · have hlt : i.toNat < xs.length := by omega
      obtain ⟨fg, tf, hfg⟩ := hv.i _ (List.getElem_mem hlt)
      have hget : xs[i.toNat]? = some (.int fg tf) := by rw [List.getElem?_eq_getElem hlt, hfg]
      repeat tb_rel
      refine w_subL hH (by decide) (by decide) (by rfl) ?_ (by with_unfolding_all rfl)
      repeat tb_rel
      refine w_subL hH (by decide) (by decide) (by rfl) ?_ (by with_unfolding_all rfl)
      refine w_subL hC i0 (by omega) hget ?_ (by with_unfolding_all rfl)
      repeat tb_rel
      refine w_subL hH (by decide) (by decide) (by rfl) ?_ (by with_unfolding_all rfl)
      repeat tb_rel
      refine w_lset hH (by decide) (by decide) (by simp) ?_
      repeat tb_rel
      refine if_dec (fun hp => ?_) (fun hp => ?_)
      · repeat tb_rel
        refine w_lset (upd_self _ _ _) (by decide) (by decide) (by simp) ?_
        rw [upd_upd]
        repeat tb_rel
        refine w_subL (upd_self _ _ _) (by decide) (by decide) (by rfl) ?_ (by with_unfolding_all rfl)
        repeat tb_rel
        refine w_fmod (fun tk => ?_) (by omega)
        rw [Int.fmod_eq_emod_of_nonneg _ (by omega)]
        repeat tb_rel
        refine w_subL (upd_self _ _ _) (by decide) (by decide) (by rfl) ?_ (by with_unfolding_all rfl)
        repeat tb_rel
        refine w_fdiv (fun td => ?_) (by omega) (noPylong_of (by omega) (by omega))
        rw [Int.fdiv_eq_ediv_of_nonneg _ (by omega)]
        repeat tb_rel
        refine w_lset (upd_self _ _ _) (by decide) (by decide) (by simp) ?_
        rw [upd_upd]
        repeat tb_rel
        exact q _ tk _ (Int.emod_nonneg _ (by omega)) (Int.emod_lt_of_pos _ (by omega)) (HandIs.turn hL hv hne (i + 1) (fg / n) s _ td t3 rfl (by omega) (by omega) (Int.ediv_nonneg (by omega) (by omega)) s0 s1)
      · repeat tb_rel
        refine w_lset (upd_self _ _ _) (by decide) (by decide) (by simp) ?_
        rw [upd_upd]
        repeat tb_rel
        refine w_subL (upd_self _ _ _) (by decide) (by decide) (by rfl) ?_ (by with_unfolding_all rfl)
        repeat tb_rel
        refine w_fmod (fun tk => ?_) (by omega)
        rw [Int.fmod_eq_emod_of_nonneg _ (by omega)]
        repeat tb_rel
        refine w_subL (upd_self _ _ _) (by decide) (by decide) (by rfl) ?_ (by with_unfolding_all rfl)
        repeat tb_rel
        refine w_fdiv (fun td => ?_) (by omega) (noPylong_of (by omega) (by omega))
        rw [Int.fdiv_eq_ediv_of_nonneg _ (by omega)]
        repeat tb_rel
        refine w_lset (upd_self _ _ _) (by decide) (by decide) (by simp) ?_
        rw [upd_upd]
        repeat tb_rel
        exact q _ tk _ (Int.emod_nonneg _ (by omega)) (Int.emod_lt_of_pos _ (by omega)) (HandIs.turn hL hv hne (i + 1) (-fg / n) s _ td t3 rfl (by omega) (by omega) (Int.ediv_nonneg (by omega) (by omega)) s0 s1)
  · repeat tb_rel
    refine w_subL hH (by decide) (by decide) (by rfl) ?_ (by with_unfolding_all rfl)
    repeat tb_rel
    refine w_fmod (fun tk => ?_) (by omega)
    rw [Int.fmod_eq_emod_of_nonneg _ (by omega)]
    repeat tb_rel
    refine w_subL hH (by decide) (by decide) (by rfl) ?_ (by with_unfolding_all rfl)
    repeat tb_rel
    refine w_fdiv (fun td => ?_) (by omega) nd
    rw [Int.fdiv_eq_ediv_of_nonneg _ (by omega)]
    repeat tb_rel
    refine w_lset hH (by decide) (by decide) (by simp) ?_
    repeat tb_rel
    exact q _ tk _ (Int.emod_nonneg _ (by omega)) (Int.emod_lt_of_pos _ (by omega)) (HandIs.turn hL hv hne i (d / n) s t1 td t3 rfl i0 i1 (Int.ediv_nonneg d0 (by omega)) s0 s1)
theorem c_lblock {r : Int} {t : Tok} {Q : Value → Hp → Prop} (q : ∀ t, Q (.int (bsz r) t) H) : Spec X 1 (.ref 233) [.int r t] H Q := by
  refine spec_fn (f := 233) ["wide"] (by rw [hX]; rfl) (by rw [hX]; rfl) (by rfl) (by rfl) (by rfl) (fun C => ?_)
  repeat tb_rel
  refine w_fdiv (fun _ => ?_) (by decide) (noPylong_of (by decide) (by decide))
  repeat tb_rel
  refine w_mul (fun t => ?_) (.of_right (by decide))
  have e : -(-(r + 8)).fdiv 16 * 16 = bsz r := by rw [Int.fdiv_eq_ediv_of_nonneg _ (by decide)]; unfold bsz; omega
  rw [e]
  exact q t
theorem c_memory {t : Tok} {Q : Value → Hp → Prop} (q : ∀ y H', MS 196 y H (fun _ => 0) H' → Q (.ref y.a) H') : Spec X 3 (.ref 196) [.int 8192 t] H Q := by
  refine spec_class (Cl := 196) (fI := 158) (by rw [hX]; kernel_rfl) (by rw [hX]; kernel_rfl) (by rw [hX]; kernel_rfl) fun x dx hx hdx hne => ?_
  refine spec_fn (f := 158) ["self", "size"] (by rw [hX]; rfl) (by rw [hX]; rfl) (by rfl) (by rfl) (by rfl) (fun C => ?_)
  have e1 : ∀ ao, upd (upd H dx ao) x (.inst 196 dx) dx = some ao := fun ao => by rw [upd_ne (Ne.symm hne), upd_self]
  repeat tb_rel
  refine w_set (upd_self _ _ _) (e1 _) (by decide) (sM_size hX).s (sM_size hX).p (sM_size hX).t (sM_size hX).h ?_
  repeat tb_rel
  refine w_Dict fun d hd => ?_
  have nx : d ≠ x := fun q => by subst q; rw [upd_ne hne, upd_self] at hd; cases hd
  have nd : d ≠ dx := fun q => by subst q; rw [upd_self] at hd; cases hd
  have hd' : H d = none := by rw [upd_ne nd, upd_ne nx, upd_ne nd] at hd; exact hd
  repeat tb_rel
  refine w_set (x := x) (by rw [upd_ne (Ne.symm nx), upd_ne hne, upd_self]) (by rw [upd_ne (Ne.symm nd), upd_self]) (by decide) (sM_words hX).s (sM_words hX).p (sM_words hX).t (sM_words hX).h ?_
  repeat tb_rel
  refine ⟨rfl, q ⟨x, dx, d⟩ _ ⟨?_, ⟨t, upd_self _ _ _⟩, ⟨fun _ => none, ?_, fun _ _ => rfl, fun _ _ h => nomatch h⟩, fun b ao e => ?_⟩⟩
  · show upd _ dx _ x = _
    rw [upd_ne hne, upd_ne (Ne.symm nx), upd_ne hne, upd_self]
  · show upd _ dx _ d = _
    rw [upd_ne nd, upd_self]
  · have b1 : b ≠ x := fun q => by subst q; rw [hx] at e; cases e
    have b2 : b ≠ dx := fun q => by subst q; rw [hdx] at e; cases e
    have b3 : b ≠ d := fun q => by subst q; rw [hd'] at e; cases e
    exact ⟨by rw [upd_ne b2, upd_ne b3, upd_ne b2, upd_ne b1, upd_ne b2]; exact e, b1, b2, b3⟩
end
end
section
section
variable {X : Fx} {H : Hp} (hX : IsK X)
include hX
theorem c_heap {mm : Mm} {R : Hp} {M : Int → Int} {st lim : Int} {t1 t2 : Tok} {Q : Value → Hp → Prop} (S : MS 196 mm R M H) (h0 : 1024 ≤ st) (h1 : st % 16 = 0) (h2 : lim ≤ 8192) (h3 : st + 16 ≤ lim) (h4 : lim % 16 = 0)
    (q : ∀ hp hd H' M' F' Ls', HS 196 108 ⟨mm, hp, hd⟩ R M' F' st lim H' → Inv M' F' Ls' [⟨st, lim - st, none⟩] st lim → (∀ k, k < 256 → M' k = M k) → Q (.ref hp) H') : Spec X 5 (.ref 108) [.ref mm.a, .int st t1, .int lim t2] H Q := by
  refine spec_class (Cl := 108) (fI := 49) (by rw [hX]; kernel_rfl) (by rw [hX]; kernel_rfl) (by rw [hX]; kernel_rfl) fun x dx hx hdx hne => ?_
  obtain ⟨tL, nL⟩ := g_LISTS hX
  refine spec_fn (f := 49) ["self", "memory", "start", "limit"] (by rw [hX]; rfl) (by rw [hX]; rfl) (by rfl) (by rfl) (by rfl) (fun C => ?_)
  have e1 : ∀ ao, upd (upd H dx ao) x (.inst 108 dx) dx = some ao := fun ao => by rw [upd_ne (Ne.symm hne), upd_self]
  repeat tb_rel
  refine w_set (upd_self _ _ _) (e1 _) (by decide) (sH_memory hX).s (sH_memory hX).p (sH_memory hX).t (sH_memory hX).h ?_
  repeat tb_rel
  refine w_set (x := x) (by rw [upd_ne hne, upd_self]) (upd_self _ _ _) (by decide) (sH_start hX).s (sH_start hX).p (sH_start hX).t (sH_start hX).h ?_
  rw [upd_upd]
  repeat tb_rel
  refine w_set (x := x) (by rw [upd_ne hne, upd_self]) (upd_self _ _ _) (by decide) (sH_limit hX).s (sH_limit hX).p (sH_limit hX).t (sH_limit hX).h ?_
  rw [upd_upd]
  repeat tb_rel
  refine w_List ?_
  repeat tb_rel
  rename_i tz
  refine ⟨by rw [sizeLine_eq]; simp, fun d hd => ?_⟩
  repeat tb_rel
  refine w_mulL (upd_self _ _ _) (by decide) (by decide) (by show 1 * 4 ≤ _; decide) fun fl hfl => ?_
  have f1 : fl ≠ d := fun q => by subst q; rw [upd_self] at hfl; cases hfl
  rw [upd_ne f1] at hfl
  have f2 : fl ≠ dx := fun q => by subst q; rw [upd_self] at hfl; cases hfl
  rw [upd_ne f2] at hfl
  have f3 : fl ≠ x := fun q => by subst q; rw [upd_self] at hfl; cases hfl
  rw [upd_ne f3, upd_ne f2] at hfl
  have d1 : d ≠ dx := fun q => by subst q; rw [upd_self] at hd; cases hd
  rw [upd_ne d1] at hd
  have d2 : d ≠ x := fun q => by subst q; rw [upd_self] at hd; cases hd
  rw [upd_ne d2, upd_ne d1] at hd
  repeat tb_rel
  refine w_set (x := x) (by rw [upd_ne (Ne.symm f3), upd_ne (Ne.symm d2), upd_ne hne, upd_self]) (by rw [upd_ne (Ne.symm f2), upd_ne (Ne.symm d1), upd_self]) (by decide) (sH_free hX).s (sH_free hX).p (sH_free hX).t (sH_free hX).h ?_
  have S' : HS 196 108 ⟨mm, x, dx⟩ R M [0, 0, 0, 0] st lim (upd (upd (upd (upd (upd (upd H dx (.ns (fun _ => none) 0)) x (.inst 108 dx)) dx (.ns (setm (setm (setm (fun _ => none) "memory" (.ref mm.a)) "start" (.int st t1)) "limit" (.int lim t2)) 3)) d (.list [.int 0 tz])) fl (.list (List.replicate (Int.toNat 4) [.int 0 tz]).flatten)) dx (.ns (heapF mm.a st lim fl t1 t2) 4)) := by
    have keep : ∀ b, b ≠ dx → b ≠ x → b ≠ d → b ≠ fl → (upd (upd (upd (upd (upd (upd H dx (.ns (fun _ => none) 0)) x (.inst 108 dx)) dx (.ns (setm (setm (setm (fun _ => none) "memory" (.ref mm.a)) "start" (.int st t1)) "limit" (.int lim t2)) 3)) d (.list [.int 0 tz])) fl (.list (List.replicate (Int.toNat 4) [.int 0 tz]).flatten)) dx (.ns (heapF mm.a st lim fl t1 t2) 4)) b = H b := fun b b1 b2 b3 b4 => by
      rw [upd_ne b1, upd_ne b4, upd_ne b3, upd_ne b1, upd_ne b2, upd_ne b1]
    have off : ∀ b ao, H b = some ao → b ≠ dx ∧ b ≠ x ∧ b ≠ d ∧ b ≠ fl := fun b ao e =>
      ⟨fun q => (by subst q; rw [hdx] at e; cases e), fun q => (by subst q; rw [hx] at e; cases e), fun q => (by subst q; rw [hd] at e; cases e), fun q => (by subst q; rw [hfl] at e; cases e)⟩
    have kk : ∀ b ao, H b = some ao → (upd (upd (upd (upd (upd (upd H dx (.ns (fun _ => none) 0)) x (.inst 108 dx)) dx (.ns (setm (setm (setm (fun _ => none) "memory" (.ref mm.a)) "start" (.int st t1)) "limit" (.int lim t2)) 3)) d (.list [.int 0 tz])) fl (.list (List.replicate (Int.toNat 4) [.int 0 tz]).flatten)) dx (.ns (heapF mm.a st lim fl t1 t2) 4)) b = some ao := fun b ao e => by
      obtain ⟨b1, b2, b3, b4⟩ := off b ao e; rw [keep b b1 b2 b3 b4]; exact e
    refine ⟨⟨kk _ _ S.a, ?_, ?_, fun b ao e => ?_⟩, ?_, ⟨t1, t2, fl, (List.replicate (Int.toNat 4) [.int 0 tz]).flatten, upd_self _ _ _, ?_, ⟨rfl, fun i k hk => ?_⟩, S.fresh hfl⟩, S.fresh hx, S.fresh hdx, by decide⟩
    · obtain ⟨t, e⟩ := S.d; exact ⟨t, kk _ _ e⟩
    · obtain ⟨g, e, w⟩ := S.w; exact ⟨g, kk _ _ e, w⟩
    · obtain ⟨e1, e2⟩ := S.r b ao e; exact ⟨kk _ _ e1, e2⟩
    · show upd _ dx _ x = _
      rw [upd_ne hne, upd_ne (Ne.symm f3), upd_ne (Ne.symm d2), upd_ne hne, upd_self]
    · rw [upd_ne f2, upd_self]
    · match i, hk with
      | 0, hk => cases hk; exact ⟨_, rfl⟩
      | 1, hk => cases hk; exact ⟨_, rfl⟩
      | 2, hk => cases hk; exact ⟨_, rfl⟩
      | 3, hk => cases hk; exact ⟨_, rfl⟩
      | n + 4, hk => simp at hk
  obtain ⟨a1, a2, fl', vs', j2, j3, j4, j5⟩ := S'.hd
  repeat tb_rel
  refine if_dec (fun hlt => ?_) (fun hlt => by omega)
  repeat tb_rel
  refine w_meth (mH_put_free hX) S'.hp j2 (by rfl) ?_
  refine w_callK (mH_put_free hX).k ?_ (by kernel_rfl) (by kernel_rfl)
  repeat tb_rel
  refine w_call (c_putfree hX S' rfl (by omega) (by omega) fun H₂ S₂ => ?_) (by decide)
  obtain ⟨Ls', sf⟩ := (SwF.nil M).cons (g := ⟨st, lim - st, none⟩) ⟨h0, by show st + 16 ≤ 8192; omega, h1⟩ (by show 16 ≤ lim - st; omega) (by show (lim - st) % 16 = 0; omega) (by show st + (lim - st) ≤ 8192; omega) (fun _ h => (nomatch h)) (fun _ h => (nomatch h))
  repeat tb_rel
  refine ⟨rfl, q _ _ _ _ _ Ls' S₂ (inv_one sf h0 h1 h2 h3 h4) fun k hk => sf.m k fun c hc => ?_⟩
  rw [List.mem_singleton.mp hc]
  exact ⟨by show k ≠ st / 4; omega, by show k ≠ (st + 4) / 4; omega⟩
end
end
section
section
variable {X : Fx} {H : Hp} (hX : IsK X)
include hX
theorem c_area {hand cl : Addr} {R : Hp} {room : Int} {tr : Tok} {Q : Value → Hp → Prop} (hh : HandIs hand cl R) (sub : Sub R H) (r1 : 1 ≤ room) (r2 : room ≤ 40)
    (q : ∀ y R' M F Ls kl ks kinds t H', HS 196 108 y R' M F 1024 (1024 + 16 * room) H' → Inv M F Ls [⟨1024, 16 * room, none⟩] 1024 (1024 + 16 * room) → R' t = some (.tup [.ref y.hp, .ref kl]) → R' kl = some (.list ks) → All2 (KindIs R') ks kinds →
      1 ≤ kinds.length → kinds.length ≤ 4 → KindsOk M kinds → HandIs hand cl R' → SubX hand R R' → kl ≠ hand → kl ≠ cl → Q (.ref t) H') : Spec X 6 (.ref 226) [.ref hand, .int room tr] H Q := by
  have np := (fn_pick hX).n
  have nM := (fn_Memory hX).n
  have nH := (fn_Heap hX).n
  have br := b_range hX
  have bl := b_len hX
  refine spec_defC (f := 226) (x := "hand") (v := .ref hand) (binds := [("hand", .ref hand), ("room", .int room tr)]) (m := fun y => if y = "room" then some (.int room tr) else none) (by rw [hX]; rfl) (by rw [hX]; rfl) (by rfl) (by intro k; rfl)
    (by
      intro k z hz
      simp only [List.mem_cons, List.not_mem_nil, or_false] at hz
      rcases hz with rfl | rfl
      · exact .inr ⟨by kernel_rfl, by rfl⟩
      · exact .inl (by kernel_rfl)) (by intro L; with_unfolding_all rfl) (by intro L; with_unfolding_all rfl) (fun C c hc => ?_)
  have S₀ : Sub R (upd H c (.cell (some (.ref hand)))) := fun b ao e => by rw [upd_ne (fun q => by subst q; rw [sub _ _ e] at hc; cases hc)]; exact sub _ _ e
  have Rc : R c = none := by
    cases e : R c with
    | none => rfl
    | some ao => rw [sub _ _ e] at hc; cases hc
  repeat tb_rel
  refine w_callK (fn_Memory hX).k ?_ (by kernel_rfl) (by kernel_rfl)
  repeat tb_rel
  refine w_call (c_memory hX fun mm H₁ S₁ => ?_) (by decide)
  have S₁ : MS 196 mm (upd R c (.cell (some (.ref hand)))) (fun _ => 0) H₁ := S₁.less fun b ao e => by
    by_cases q : b = c
    · subst q; rw [upd_self] at e ⊢; exact e
    · rw [upd_ne q] at e; exact S₀ b ao e
  repeat tb_rel
  refine w_List ?_
  repeat tb_rel
  refine ⟨by rw [sizeLine_eq]; simp, fun kl hkl => ?_⟩
  have S₂ := S₁.new (ao := .list []) hkl
  have Rkl := S₁.fresh hkl
  generalize hR₂ : upd (upd R c (.cell (some (.ref hand)))) kl (.list []) = R₂ at S₂
  have sx₀ : Sub R R₂ := by subst hR₂; exact (Sub.new Rc).trans (Sub.new Rkl)
  have hh₂ : HandIs hand cl R₂ := hh.sub sx₀
  have hkl₂ : R₂ kl = some (.list []) := by subst hR₂; exact upd_self _ _ _
  obtain ⟨Lh, hLh⟩ := hh.is
  have nkl : kl ≠ hand := fun q => by rw [q] at Rkl; have := Sub.new (ao := .cell (some (.ref hand))) Rc _ _ hLh; rw [this] at Rkl; cases Rkl
  have ncl : kl ≠ cl := fun q => by obtain ⟨L, e⟩ := hh.cs; rw [q] at Rkl; have := Sub.new (ao := .cell (some (.ref hand))) Rc _ _ e; rw [this] at Rkl; cases Rkl
  have hc₂ : R₂ c = some (.cell (some (.ref hand))) := by subst hR₂; exact Sub.new Rkl _ _ (upd_self _ _ _)
  have nc : c ≠ hand := fun q => by rw [q, hLh] at Rc; cases Rc
  have hcH := S₂.get hc₂
  repeat tb_rel
  refine w_callB (by intro _ e; cases e) ?_ (by kernel_rfl) (by kernel_rfl)
  repeat tb_rel
  refine w_callK (fn_pick hX).k ?_ (by kernel_rfl) (by kernel_rfl)
  repeat tb_rel
  refine w_call (c_pick hX hh₂ (fun b ao e => S₂.get e) (by decide) (by decide) fun k0 tk L₃ k1 k2 hh₃ => ?_) (by decide)
  have S₃ := S₂.set (ao := .list L₃) (hh₂.is.choose_spec)
  repeat tb_rel
  refine w_range1 fun r hr => ?_
  have S₄ := S₃.add (ao := .rng 0 (1 + k0) 1) hr
  have sx₃ : SubX hand R₂ (upd R₂ hand (.list L₃)) := SubX.upd
  generalize upd R₂ hand (.list L₃) = R₃ at *
  have kb : 0 ≤ 1 + k0 ∧ 1 + k0 ≤ 4000 := by omega
  refine for_range (upd_self _ _ _) (rs1 kb) (1 + k0).toNat (rn1 kb.1)
    (AreaJ 196 mm R hand cl c kl room tr)
    ⟨by rfl, by rfl, by rfl, R₃, fun _ => 0, [], [], S₄, hh₃, sx₃.at hc₂ nc, fun b ao n e => sx₃ b ao n (sx₀ _ _ e), sx₃.at hkl₂ nkl, .nil, rfl, fun p hp => (nomatch hp), fun p hp => (nomatch hp)⟩ (fun i ti h m H hi hJ => ?_) (fun m H hJ => ?_) (by rfl) (by rfl) (by rfl)
  · obtain ⟨gm, gk, gr, R', M, ks, kinds, S, hh', hc', sx', hkl', al, hlen, hko, hlt⟩ := hJ
    have hcH := S.get hc'
    obtain ⟨tm, hm⟩ := S.d
    have hi4 : (i : Int) < 4 := by omega
    have nth : ∀ xs, R' hand ≠ some (.tup xs) := fun xs => by obtain ⟨L, e⟩ := hh'.is; rw [e]; intro q; cases q
    repeat tb_rel
    refine w_callK (fn_pick hX).k ?_ (by kernel_rfl) (by kernel_rfl)
    repeat tb_rel
    refine w_call (c_pick hX hh' (fun b ao e => S.get e) (by decide) (by decide) fun w0 tw L₄ w1 w2 hh₄ => ?_) (by decide)
    have S₅ := S.set (ao := .list L₄) (hh'.is.choose_spec)
    have sx₄ : SubX hand R' (upd R' hand (.list L₄)) := SubX.upd
    generalize upd R' hand (.list L₄) = R₄ at *
    refine w_mul (fun twide => ?_) (.of_left (by decide))
    repeat tb_rel
    have hcH := S₅.get (sx₄.at hc' nc)
    refine w_AssignComp (cl := [("hand", c)]) (by kernel_rfl) ?_ (by kernel_rfl) (by decide) (by kernel_rfl) (by decide) (by kernel_rfl) (by kernel_rfl) (by kernel_rfl) (by intro _; kernel_rfl)
    repeat tb_rel
    refine w_callB (by intro _ e; cases e) ?_ (by kernel_rfl) (by kernel_rfl)
    repeat tb_rel
    refine w_fdiv (fun _ => ?_) (by decide) (noPylong_of (by decide) (by decide))
    repeat tb_rel
    rw [Int.fdiv_eq_ediv_of_nonneg _ (by decide), show 4 * w0 / 4 = w0 by omega]
    refine w_range1 fun r hr => ?_
    have S₆ := S₅.add (ao := .rng 0 w0 1) hr
    have wb : 0 ≤ w0 ∧ w0 ≤ 4000 := by omega
    refine comp_range (upd_self _ _ _) (rs1 wb) w0.toNat (rn1 wb.1) (szt wb.2)
      (fun i ys H => ∃ R₅, MS 196 mm R₅ M H ∧ HandIs hand cl R₅ ∧ SubX hand R' R₅ ∧ ∀ v ∈ ys, ∃ k t, v = .int k t) ⟨R₄, S₆, hh₄, sx₄, fun v hv => nomatch hv⟩ ?_ ?_
    · rintro j v ys h' L' m' H₇ hj ⟨t, rfl⟩ ⟨R₅, S₇, hh₅, sx₅, hys⟩ hl
      have hcH := S₇.get (sx₅.at hc' nc)
      repeat tb_rel
      unfold WTests
      repeat tb_rel
      refine w_callK (fn_pick hX).k ?_ (by kernel_rfl) (by kernel_rfl)
      repeat tb_rel
      refine w_call (c_pick hX hh₅ (fun b ao e => S₇.get e) (by decide) (by decide) fun p0 tp L₆ p1 p2 hh₆ => ?_) (by decide)
      have S₈ := S₇.set (ao := .list L₆) (hh₅.is.choose_spec)
      have sx₆ : SubX hand R₅ (upd R₅ hand (.list L₆)) := SubX.upd
      generalize upd R₅ hand (.list L₆) = R₆ at *
      repeat tb_rel
      refine if_beq (fun _ => ?_) (fun _ => ?_)
      · repeat tb_rel
        refine w_mul (fun te => ?_) (.of_left (by decide))
        refine ⟨R₆, S₈, hh₆, sx₅.trans sx₆, fun v hv => ?_⟩
        rcases mem_snoc.mp hv with hv | rfl
        · exact hys v hv
        · exact ⟨_, _, rfl⟩
      · exact ⟨R₆, S₈, hh₆, sx₅.trans sx₆, hys⟩
    · rintro ys H₈ ⟨R₅, S₇, hh₅, sx₅, hys⟩ hl D hD
      have S₈ := S₇.new (ao := .list ys) hD
      have RD := S₇.fresh hD
      have s₆ : Sub R₅ (upd R₅ D (.list ys)) := Sub.new RD
      have hhD : HandIs hand cl (upd R₅ D (.list ys)) := hh₅.sub s₆
      have nD : D ≠ hand := fun q => by obtain ⟨L, e⟩ := hh₅.is; rw [q, e] at RD; cases RD
      have hD₆ : upd R₅ D (.list ys) D = some (.list ys) := upd_self _ _ _
      have sx₆ : SubX hand R' (upd R₅ D (.list ys)) := sx₅.trans s₆.x
      generalize upd R₅ D (.list ys) = R₆ at *
      obtain ⟨tm₈, hm₈⟩ := S₈.d
      repeat tb_rel
      refine w_mul (fun _ => ?_) (.of_left (by decide))
      repeat tb_rel
      refine w_meth (mM_put hX) S₈.a hm₈ (by rfl) ?_
      refine w_callK (mM_put hX).k ?_ (by kernel_rfl) (by kernel_rfl)
      repeat tb_rel
      refine w_call (c_put hX S₈ (by omega) (by omega) fun H₉ S₉ => ?_) (by decide)
      repeat tb_rel
      refine w_callB (by intro _ e; cases e) ?_ (by kernel_rfl) (by kernel_rfl)
      repeat tb_rel
      refine w_callB (by intro _ e; cases e) ?_ (by kernel_rfl) (by kernel_rfl)
      repeat tb_rel
      have hyl : (ys.length : Int) ≤ 11 := by omega
      refine w_len (S₉.get hD₆) (by omega) fun _ => ?_
      repeat tb_rel
      refine w_range1 fun r hr => ?_
      have S₁₀ := S₉.add (ao := .rng 0 ys.length 1) hr
      generalize hM₉ : wr M (64 + 96 * (0 + (i : Int) * 1)) (4 * w0) = M₉ at *
      have yb : 0 ≤ (ys.length : Int) ∧ (ys.length : Int) ≤ 4000 := by omega
      refine for_range (upd_self _ _ _) (rs1 yb) ys.length rn1'
        (fun j m H => m "memory" = some (.ref mm.a) ∧ m "kinds" = some (.ref kl) ∧ m "room" = some (.int room tr) ∧ (∃ t, m "where" = some (.int (64 + 96 * (0 + (i : Int) * 1)) t)) ∧ (∃ t, m "wide" = some (.int (4 * w0) t)) ∧ m "offsets" = some (.ref D) ∧
          ∃ M', MS 196 mm R₆ M' H ∧ ∀ k, k ≤ 16 + 24 * (i : Int) → M' k = M₉ k)
        ⟨by with_unfolding_all assumption, by with_unfolding_all assumption, by with_unfolding_all assumption, ⟨_, by rfl⟩, ⟨_, by rfl⟩, by rfl, M₉, S₁₀, fun _ _ => rfl⟩ (fun j tj h m H hj hJ => ?_) (fun m H hJ => ?_) (by rfl) (by rfl) (by rfl)
      · obtain ⟨gm, gk, gr, ⟨twh, gw⟩, ⟨twi, gwi⟩, go, M', S₁₁, hM'⟩ := hJ
        obtain ⟨tm₁, hm₁⟩ := S₁₁.d
        obtain ⟨v, tv, hv⟩ := hys ys[j] (List.getElem_mem hj)
        have hget : ys[(0 + (j : Int) * 1).toNat]? = some (.int v tv) := by rw [show (0 + (j : Int) * 1).toNat = j by omega, List.getElem?_eq_getElem hj, hv]
        repeat tb_rel
        refine w_meth (mM_put hX) S₁₁.a hm₁ (by rfl) ?_
        refine w_callK (mM_put hX).k ?_ (by kernel_rfl) (by kernel_rfl)
        repeat tb_rel
        refine w_mul (fun _ => ?_) (.of_left (by decide))
        repeat tb_rel
        refine w_subL (S₁₁.get hD₆) (by omega) (by omega) hget ?_ (by with_unfolding_all rfl)
        repeat tb_rel
        refine w_call (c_put hX S₁₁ (by omega) (by omega) fun H₁₂ S₁₂ => ?_) (by decide)
        repeat tb_rel
        refine ⟨gm, gk, gr, ⟨_, gw⟩, ⟨_, gwi⟩, go, _, S₁₂, fun k hk => ?_⟩
        unfold wr
        rw [if_neg (by omega)]
        exact hM' k hk
      · obtain ⟨gm, gk, gr, ⟨twh, gw⟩, ⟨twi, gwi⟩, go, M', S₁₁, hM'⟩ := hJ
        obtain ⟨tm₁, hm₁⟩ := S₁₁.d
        repeat tb_rel
        refine w_meth (mM_put hX) S₁₁.a hm₁ (by rfl) ?_
        refine w_callK (mM_put hX).k ?_ (by kernel_rfl) (by kernel_rfl)
        repeat tb_rel
        refine w_callB (by intro _ e; cases e) ?_ (by kernel_rfl) (by kernel_rfl)
        repeat tb_rel
        refine w_len (S₁₁.get hD₆) (by omega) fun _ => ?_
        refine w_mul (fun _ => ?_) (.of_left (by decide))
        repeat tb_rel
        refine w_pow (by decide) (by decide) (by decide) fun _ => ?_
        repeat tb_rel
        refine w_call (c_put hX S₁₁ (by omega) (by omega) fun H₁₂ S₁₂ => ?_) (by decide)
        repeat tb_rel
        have hkl₁ : R₆ kl = some (.list ks) := sx₆.at hkl' nkl
        refine w_mList (S₁₂.get hkl₁) PySem.F.slot_list_append PySem.F.type_list_append ?_
        refine w_callB (by intro _ e; cases e) ?_ (by kernel_rfl) (by kernel_rfl)
        repeat tb_rel
        refine w_Tuple ?_
        repeat tb_rel
        refine ⟨by rw [sizeLine_eq]; simp, fun t ht => ?_⟩
        have S₁₃ := S₁₂.new (ao := .tup [.int (64 + 96 * (0 + (i : Int) * 1)) twh, .int (4 * w0) twi, .ref D]) ht
        have Rt := S₁₂.fresh ht
        have nt : kl ≠ t := fun q => by rw [← q, hkl₁] at Rt; cases Rt
        have hkl₃ : upd R₆ t (.tup [.int (64 + 96 * (0 + (i : Int) * 1)) twh, .int (4 * w0) twi, .ref D]) kl = some (.list ks) := by rw [upd_ne nt]; exact hkl₁
        repeat tb_rel
        refine w_append (S₁₃.get hkl₃) (by rw [sizeLine_eq, al.len]; omega) ?_
        have S₁₄ := S₁₃.set (ao := .list (ks ++ [.ref t])) hkl₃
        have ts : TupSub R' (upd (upd R₆ t (.tup [.int (64 + 96 * (0 + (i : Int) * 1)) twh, .int (4 * w0) twi, .ref D])) kl (.list (ks ++ [.ref t]))) :=
          ((sx₆.tup nth).trans (Sub.new Rt).tup).trans (TupSub.upd fun xs => by rw [hkl₃]; intro e; cases e)
        have nth' : hand ≠ t := fun q => by obtain ⟨L, e⟩ := hhD.is; rw [q, Rt] at e; cases e
        have ntc : cl ≠ t := fun q => by obtain ⟨L, e⟩ := hhD.cs; rw [q, Rt] at e; cases e
        repeat tb_rel
        refine ⟨gm, gk, gr, _, _, ks ++ [.ref t], kinds ++ [(64 + 96 * (0 + (i : Int) * 1), 4 * w0)], S₁₄, hhD.keep (by rw [upd_ne (Ne.symm nkl), upd_ne nth']) (by rw [upd_ne (Ne.symm ncl), upd_ne ntc]), ?_, fun b ao n e => ?_, upd_self _ _ _, (al.mono (KindIs.mono ts)).snoc ⟨t, twh, twi, D, rfl, ?_⟩, by simp [hlen], fun p hp => ?_, fun p hp => ?_⟩
        · have e := sx₆.at hc' nc
          rw [upd_ne (fun q => by rw [q, hkl₁] at e; cases e), upd_ne (fun q => by rw [q, Rt] at e; cases e)]
          exact e
        · have e₁ := sx₆.at (sx' b ao n e) n
          rw [upd_ne (fun q => ?_), upd_ne (fun q => by rw [q, Rt] at e₁; cases e₁)]
          · exact e₁
          · have h1 : R kl = none := by
              cases e : R kl with
              | none => rfl
              | some ao => have := Sub.new (ao := .cell (some (.ref hand))) Rc _ _ e; rw [this] at Rkl; cases Rkl
            rw [q, h1] at e; cases e
        · rw [upd_ne (Ne.symm nt), upd_self]
        · unfold wr
          rcases mem_snoc.mp hp with hp | rfl
          · have hk := hko p hp
            have hl := hlt p hp
            obtain ⟨⟨a1, a2, a3, a4⟩, a5, a6⟩ := hk
            refine ⟨⟨a1, a2, a3, a4⟩, ?_, a6⟩
            rw [if_neg (by omega), hM' _ (by omega), ← hM₉]
            unfold wr
            rw [if_neg (by omega)]
            exact a5
          · refine ⟨⟨by show 64 ≤ 64 + 96 * (0 + (i : Int) * 1); omega, by show 64 + 96 * (0 + (i : Int) * 1) ≤ 352; omega, by show (64 + 96 * (0 + (i : Int) * 1)) % 4 = 0; omega, by show (64 + 96 * (0 + (i : Int) * 1)) % 2 = 0; omega⟩, ?_, by show 4 * w0 % 4 = 0; omega, by show 0 ≤ 4 * w0; omega, by show 4 * w0 ≤ 44; omega⟩
            show (if (64 + 96 * (0 + (i : Int) * 1)) / 4 = _ then _ else _) = 4 * w0
            rw [if_neg (by omega), hM' _ (by omega), ← hM₉]
            unfold wr
            rw [if_pos rfl]
            omega
        · rcases mem_snoc.mp hp with hp | rfl
          · have := hlt p hp; simp only [Int.natCast_succ]; omega
          · show 64 + 96 * (0 + (i : Int) * 1) < _; simp only [Int.natCast_succ]; omega
  · obtain ⟨gm, gk, gr, R', M, ks, kinds, S, hh', hc', sx', hkl', al, hlen, hko, hlt⟩ := hJ
    repeat tb_rel
    refine w_Tuple ?_
    repeat tb_rel
    refine w_callK (fn_Heap hX).k ?_ (by kernel_rfl) (by kernel_rfl)
    repeat tb_rel
    refine w_mul (fun _ => ?_) (.of_left (by decide))
    repeat tb_rel
    refine w_call (c_heap hX S (by decide) (by decide) (by omega) (by omega) (by omega) fun hp hd H₂ M' F' Ls' S₂ I low => ?_) (by decide)
    repeat tb_rel
    refine ⟨by rw [sizeLine_eq]; simp, fun t ht => ?_⟩
    have S₃ := S₂.new (ao := .tup [.ref hp, .ref kl]) ht
    have Rt := S₂.fresh ht
    have s₃ : Sub R' (upd R' t (.tup [.ref hp, .ref kl])) := Sub.new Rt
    rw [show 1024 + 16 * room - 1024 = 16 * room by omega] at I
    exact q ⟨mm, hp, hd⟩ _ M' F' Ls' kl ks kinds t _ S₃ I (upd_self _ _ _) (s₃ _ _ hkl') (al.mono (KindIs.mono s₃.tup)) (by omega) (by omega) (hko.low low) (hh'.sub s₃) (sx'.trans s₃.x) nkl ncl
end
end
section
section
variable {X : Fx} {H : Hp} (hX : IsK X)
include hX
theorem fn_sound : FnOk X.K "_law_sound" 238 := ⟨by rw [hX]; kernel_rfl, by rw [hX]; kernel_rfl⟩
theorem b_sorted : BuiltOk X.K "sorted" (.builtin "sorted") := ⟨by rw [hX]; kernel_rfl, by rfl⟩
theorem c_sound {y : Yd} {lr : Addr} {R : Hp} {M : Int → Int} {F : List Int} {Ls : Nat → List Int} {B : List Bk} {st lim : Int} {rs : List Value} {recs : List Rc} {Q : Value → Hp → Prop}
    (S : HS 196 108 y R M F st lim H) (I : Inv M F Ls B st lim) (hrs : R lr = some (.list rs)) (ar : All2 (RcIs R) rs recs) (pr : (recs.map fun r => r.r.key).Perm (usedOf B)) (ok : ∀ r ∈ recs, RcOk M r) (fu : Full M recs) (h60 : recs.length < 60)
    (q : ∀ H' R', Sub R R' → HS 196 108 y R' M F st lim H' → Q (.bool true) H') : Spec X 6 (.ref 238) [.ref y.hp, .ref lr] H Q := by
  have br := b_range hX
  have bs := b_sorted hX
  have nlb := (fn_lblock hX).n
  refine spec_defC (f := 238) (x := "area") (v := .ref y.hp) (binds := [("area", .ref y.hp), ("records", .ref lr)]) (m := fun y => if y = "records" then some (.ref lr) else none) (by rw [hX]; rfl) (by rw [hX]; rfl) (by rfl) (by intro k; rfl)
    (by
      intro k z hz
      simp only [List.mem_cons, List.not_mem_nil, or_false] at hz
      rcases hz with rfl | rfl
      · exact .inr ⟨by kernel_rfl, by rfl⟩
      · exact .inl (by kernel_rfl)) (by intro L; with_unfolding_all rfl) (by intro L; with_unfolding_all rfl) (fun C c hc => ?_)
  have S₁ := S.new (ao := .cell (some (.ref y.hp))) hc
  have Rc' := S.fresh hc
  have sub₁ : Sub R (upd R c (.cell (some (.ref y.hp)))) := Sub.new Rc'
  have hc₁ : upd R c (.cell (some (.ref y.hp))) c = some (.cell (some (.ref y.hp))) := upd_self _ _ _
  generalize upd R c (.cell (some (.ref y.hp))) = R₁ at *
  generalize upd H c (.cell (some (.ref y.hp))) = H₁ at *
  have hcH₁ := S₁.get hc₁
  obtain ⟨t1, t2, fl, vs, j2, j3, j4, j5⟩ := S₁.hd
  repeat tb_rel
  refine w_field (gH_start hX) S₁.hp j2 (by rfl) (by rfl) ?_
  repeat tb_rel
  refine w_List ?_
  repeat tb_rel
  refine ⟨by rw [sizeLine_eq]; simp, fun tl htl => ?_⟩
  have S₂ := S₁.new (ao := .list []) htl
  have Rtl := S₁.fresh htl
  have sub₂ : Sub R₁ (upd R₁ tl (.list [])) := Sub.new Rtl
  have htl₂ : upd R₁ tl (.list []) tl = some (.list []) := upd_self _ _ _
  generalize upd R₁ tl (.list []) = R₂ at *
  have hcH₂ := S₂.get (sub₂ _ _ hc₁)
  obtain ⟨t1', t2', fl', vs', l2, l3, l4, l5⟩ := S₂.hd
  repeat tb_rel
  refine w_meth (mH_blocks hX) S₂.hp l2 (by rfl) ?_
  refine w_callK0 (mH_blocks hX).k ?_
  refine w_call (c_blocks hX S₂ I fun H₃ R₃ l vs₃ sub₃ S₃ hl nl al => ?_) (by decide)
  have nlt : ∀ xs, R₃ l ≠ some (.tup xs) := fun xs => by rw [hl]; intro e; cases e
  have sub₄ : Sub R₂ (del R₃ l) := fun b ao e => by rw [del_ne (fun q => by rw [q, nl] at e; cases e)]; exact sub₃ _ _ e
  refine for_list (S₃.get hl) (.inr ⟨⟨_, _, _, rfl⟩, fun v hv => by obtain ⟨b, _, t, _, _, _, e, _⟩ := al.mem hv; exact ⟨t, e⟩⟩)
    (fun i m H => m "taken_ones" = some (.ref tl) ∧ m "records" = some (.ref lr) ∧ ∃ P Bs R' vs' cur tc, B = P ++ Bs ∧ P.length = i ∧ Tiles Bs cur lim ∧ m "at" = some (.int cur tc) ∧ HS 196 108 y R' M F st lim H ∧ Sub R₁ R' ∧
      All2 (BkTup R') vs₃ B ∧ R' tl = some (.list vs') ∧ All2 (DtV R') vs' ((used3 P).map trD))
    ⟨by rfl, by with_unfolding_all rfl, [], B, del R₃ l, [], st, _, rfl, rfl, I.ti, by with_unfolding_all rfl, S₃.del hl, sub₂.trans sub₄, al.mono (BkTup.mono (TupSub.del nlt)), sub₄ _ _ htl₂, .nil⟩ ?_ ?_
  · rintro i v h m H₄ hv ⟨gt, gr, P, Bs, R', vt, cur, tc, eB, rfl, tli, ga, S₄, sub₅, al₄, htv, at'⟩
    obtain ⟨b, hb, t, ta, tn, dv, rfl, ht, hdv⟩ := al₄.get hv
    have eb : ∃ r, Bs = b :: r := by
      rw [eB, List.getElem?_append_right (Nat.le_refl _), Nat.sub_self] at hb
      cases Bs with
      | nil => simp at hb
      | cons c r => simp at hb; subst hb; exact ⟨r, rfl⟩
    obtain ⟨r, rfl⟩ := eb
    obtain ⟨rfl, tr⟩ := tli
    have ob := I.ok b (by rw [eB]; simp)
    have o4 := ob.n
    have o5 := ob.m
    have hlen : vt.length ≤ 1000 := by
      have h1 := at'.len
      have h2 : (used3 P).length ≤ P.length := List.length_filterMap_le _ _
      have h3 := tiles_len I.ti fun c hc => (I.ok c hc).n
      have h4 := I.s0
      have h5 : P.length ≤ B.length := by rw [eB]; simp
      have h6 := I.l1
      rw [List.length_map] at h1
      omega
    refine w_unpack3 (S₄.get ht) ?_
    repeat tb_rel
    refine if_bne (fun h => absurd rfl h) (fun _ => ?_)
    repeat tb_rel
    refine w_fmod (fun _ => ?_) (by decide)
    rw [Int.fmod_eq_emod_of_nonneg _ (by decide), o5]
    repeat tb_rel
    refine if_bne (fun h => absurd rfl h) (fun _ => ?_)
    repeat tb_rel
    refine if_dec (fun h => by omega) (fun _ => ?_)
    repeat tb_rel
    refine if_false ?_
    repeat tb_rel
    cases hbd : b.d with
    | none =>
      rw [hbd] at hdv
      have hdv : dv = .none := hdv
      subst hdv
      refine w_isNot (by rfl) ?_
      repeat tb_rel
      refine if_false ?_
      repeat tb_rel
      refine ⟨by with_unfolding_all assumption, by with_unfolding_all assumption, P ++ [b], r, R', vt, _, _, by rw [eB]; simp, by simp, tr, by with_unfolding_all rfl, S₄, sub₅, al₄, htv, by rw [used3_snoc_free hbd]; exact at'⟩
    | some d =>
      rw [hbd] at hdv
      obtain ⟨td, rfl⟩ : ∃ td, dv = .int d td := hdv
      refine w_isNot (by rfl) ?_
      repeat tb_rel
      refine if_true ?_
      repeat tb_rel
      refine w_mList (S₄.get htv) PySem.F.slot_list_append PySem.F.type_list_append ?_
      refine w_callB (by intro _ e; cases e) ?_ (by kernel_rfl) (by kernel_rfl)
      repeat tb_rel
      refine w_Tuple ?_
      repeat tb_rel
      rename_i ty
      refine ⟨by rw [sizeLine_eq]; simp, fun u hu => ?_⟩
      have S₅ := S₄.new (ao := .tup [.int (b.a + 8) ty, .int d td, .int b.n tn]) hu
      have Ru := S₄.fresh hu
      have nu : tl ≠ u := fun q => by rw [q, Ru] at htv; cases htv
      have htv₅ : upd R' u (.tup [.int (b.a + 8) ty, .int d td, .int b.n tn]) tl = some (.list vt) := by rw [upd_ne nu]; exact htv
      repeat tb_rel
      refine w_append (S₅.get htv₅) (by rw [sizeLine_eq]; omega) ?_
      have S₆ := S₅.set (ao := .list (vt ++ [.ref u])) htv₅
      have ts : TupSub R' (upd (upd R' u (.tup [.int (b.a + 8) ty, .int d td, .int b.n tn])) tl (.list (vt ++ [.ref u]))) := (Sub.new Ru).tup.trans (TupSub.upd fun xs => by rw [htv₅]; intro e; cases e)
      have hu₆ : (upd (upd R' u (.tup [.int (b.a + 8) ty, .int d td, .int b.n tn])) tl (.list (vt ++ [.ref u]))) u = some (.tup [.int (b.a + 8) ty, .int d td, .int b.n tn]) := by rw [upd_ne (Ne.symm nu), upd_self]
      have sub₆ : Sub R₁ (upd (upd R' u (.tup [.int (b.a + 8) ty, .int d td, .int b.n tn])) tl (.list (vt ++ [.ref u]))) := fun b' ao e => by
        have e₅ := sub₅ _ _ e
        rw [upd_ne (fun q => by rw [q, Rtl] at e; cases e), upd_ne (fun q => by rw [q, Ru] at e₅; cases e₅)]
        exact e₅
      have htv₆ : (upd (upd R' u (.tup [.int (b.a + 8) ty, .int d td, .int b.n tn])) tl (.list (vt ++ [.ref u]))) tl = some (.list (vt ++ [.ref u])) := upd_self _ _ _
      generalize (upd (upd R' u (.tup [.int (b.a + 8) ty, .int d td, .int b.n tn])) tl (.list (vt ++ [.ref u]))) = R₆ at *
      repeat tb_rel
      refine ⟨by with_unfolding_all assumption, by with_unfolding_all assumption, P ++ [b], r, R₆, _, _, _, by rw [eB]; simp, by simp, tr, by with_unfolding_all rfl, S₆, sub₆, al₄.mono (BkTup.mono ts), htv₆, ?_⟩
      rw [used3_snoc_used hbd, List.map_append]
      exact (at'.mono (DtV.mono ts)).snoc ⟨u, _, rfl, hu₆, .cons ⟨_, rfl⟩ (.cons ⟨_, rfl⟩ (.cons ⟨_, rfl⟩ .nil))⟩
  · rintro m H₄ ⟨gt, gr, P, Bs, R', vt, cur, tc, eB, eP, tli, ga, S₄, sub₅, al₄, htv, at'⟩ hln
    have eN : Bs = [] := by
      have h1 := al.len
      have h2 : B.length = P.length + Bs.length := by rw [eB]; simp
      exact List.eq_nil_of_length_eq_zero (by omega)
    subst eN
    rw [List.append_nil] at eB
    subst eB
    obtain rfl : cur = lim := tli
    have S₅ := S₄.add (ao := .list vs₃) hln
    have hcH₅ := S₅.get (sub₅ _ _ hc₁)
    have hrs₅ := sub₅ _ _ (sub₁ _ _ hrs)
    have ar₅ := ar.mono (RcIs.mono (sub₁.trans sub₅).tup)
    have hl5 := ar.len
    obtain ⟨u1, u2, fl5, vs5, n2, n3, n4, n5⟩ := S₅.hd
    clear S₁ S₂ S₃ S₄ hcH₁ hcH₂ l2 l3 l4 l5 j2 j3 j4 j5
    repeat tb_rel
    refine w_field (gH_limit hX) S₅.hp n2 (by rfl) (by rfl) ?_
    repeat tb_rel
    refine if_bne (fun h => absurd rfl h) (fun _ => ?_)
    repeat tb_rel
    refine w_ListComp (cl := []) (by kernel_rfl) ?_ (by decide) (by kernel_rfl) (by decide) (by intro _; kernel_rfl)
    repeat tb_rel
    refine w_callB (by intro _ e; cases e) ?_ (by kernel_rfl) (by kernel_rfl)
    repeat tb_rel
    refine w_sortT (fun i => (recs.getD i ⟨0, 0, 0, 0⟩).t) (S₅.get hrs₅) (by omega) (fun i hi => ?_) (by rw [hl5]; exact rc_inj I pr) (fun D p Pm As hD => ?_)
    · obtain ⟨rc, hrc, t, tt, kv, tv, e1, e2, _⟩ := ar₅.get (getD_lt (d := .none) hi)
      refine ⟨t, tt, [kv, .int rc.v tv], e1, ?_⟩
      rw [List.getD_eq_getElem?_getD, hrc]
      exact S₅.get e2
    have S₆ := S₅.new (ao := .list (p.toList.map fun i => rs.getD i .none)) hD
    have RD := S₅.fresh hD
    have as := all2_pick ar₅ .none ⟨0, 0, 0, 0⟩ p.toList fun i hi => Pm.mem hi
    have esr := sorted_used I pr ok (pick_perm ⟨0, 0, 0, 0⟩ (by rw [← hl5]; exact Pm)) (pick_sorted Pm As)
    have osr : ∀ r ∈ (p.toList.map fun i => recs.getD i ⟨0, 0, 0, 0⟩), RcOk M r := fun r hr => ok r ((pick_perm ⟨0, 0, 0, 0⟩ (by rw [← hl5]; exact Pm)).mem_iff.mp hr)
    have hsz : (p.toList.map fun i => rs.getD i Value.none).length < 60 := by rw [List.length_map, Array.length_toList, Pm.size]; omega
    generalize (p.toList.map fun i => rs.getD i Value.none) = srt at *
    generalize (p.toList.map fun i => recs.getD i ⟨0, 0, 0, 0⟩) = srecs at *
    have hD₆ : upd R' D (.list srt) D = some (.list srt) := upd_self _ _ _
    have nDt : ∀ xs, upd R' D (.list srt) D ≠ some (.tup xs) := fun xs => by rw [hD₆]; intro e; cases e
    have sub₆ : Sub R' (del (upd R' D (.list srt)) D) := fun b ao e => by
      have n : b ≠ D := fun q => by rw [q, RD] at e; cases e
      rw [del_ne n, upd_ne n]; exact e
    refine comp_list (S₆.get hD₆) (by rw [sizeLine_eq]; omega) (.inr ⟨⟨_, _, _, rfl⟩, fun v hv => by obtain ⟨b, _, t, _, _, _, e, _⟩ := as.mem hv; exact ⟨t, e⟩⟩)
      (fun i ys H => ∃ R₇, HS 196 108 y R₇ M F st cur H ∧ Sub R' R₇ ∧ All2 (DtV R₇) ys ((srecs.take i).map fun r => trD r.trip)) ⟨_, S₆.del hD₆, sub₆, .nil⟩ ?_ ?_
    · rintro j v ys h' L' m' H₇ hj hv ⟨R₇, S₇, sub₇, ay⟩ hl₇
      obtain ⟨rc, hrc, t, tt, kv, tv, rfl, ht, t', ta, tw, o, rfl, ht'⟩ := as.get hv
      have ht₇ := sub₇ _ _ ht
      have ht'₇ := sub₇ _ _ ht'
      have hrm := osr rc (List.mem_of_getElem? hrc)
      refine w_unpack3 (S₇.get ht₇) ?_
      repeat tb_rel
      unfold WTests
      refine if_true ?_
      repeat tb_rel
      refine w_Tuple ?_
      repeat tb_rel
      refine w_subT (S₇.get ht'₇) (by decide) (by decide) (by rfl) ?_ (by with_unfolding_all rfl)
      repeat tb_rel
      refine w_callK (fn_lblock hX).k ?_ (by kernel_rfl) (by kernel_rfl)
      repeat tb_rel
      refine w_subT (S₇.get ht'₇) (by decide) (by decide) (by rfl) ?_ (by with_unfolding_all rfl)
      repeat tb_rel
      refine w_call (c_lblock hX (r := rc.w) fun tb => ?_) (by decide)
      repeat tb_rel
      refine ⟨by rw [sizeLine_eq]; simp, fun u hu => ?_⟩
      have Ru := S₇.fresh hu
      have S₈ := S₇.new (ao := .tup [.int rc.t tt, .int rc.a ta, .int (bsz rc.w) tb]) hu
      refine ⟨_, S₈, sub₇.trans (Sub.new Ru), ?_⟩
      rw [show srecs.take (j + 1) = srecs.take j ++ [rc] by rw [List.take_add_one, hrc]; rfl, List.map_append]
      exact (ay.mono (DtV.mono (Sub.new Ru).tup)).snoc ⟨u, _, rfl, upd_self _ _ _, .cons ⟨_, rfl⟩ (.cons ⟨_, rfl⟩ (.cons ⟨_, rfl⟩ .nil))⟩
    · rintro ys H₇ ⟨R₇, S₇, sub₇, ay⟩ hl₇ hDn D' hD'
      rw [show srecs.take srt.length = srecs by rw [as.len]; exact List.take_length] at ay
      have S₈ := (S₇.add (ao := .list srt) hDn).new (ao := .list ys) hD'
      have RD' := (S₇.add (ao := .list srt) hDn).fresh hD'
      have sub₈ : Sub R₇ (upd R₇ D' (.list ys)) := Sub.new RD'
      have hD'₈ : upd R₇ D' (.list ys) D' = some (.list ys) := upd_self _ _ _
      generalize upd R₇ D' (.list ys) = R₈ at *
      have sR₈ : Sub R₁ R₈ := sub₅.trans (sub₇.trans sub₈)
      have htv₈ := (sub₇.trans sub₈) _ _ htv
      have at₈ := at'.mono (DtV.mono (sub₇.trans sub₈).tup)
      have ay₈ := ay.mono (DtV.mono sub₈.tup)
      rw [show (srecs.map fun r => trD r.trip) = (srecs.map Rc.trip).map trD by rw [List.map_map]; rfl, esr] at ay₈
      repeat tb_rel
      refine w_neL (S₈.get htv₈) (S₈.get hD'₈) (at₈.mono (DtV.mono fun _ _ e => S₈.get e)) (ay₈.mono (DtV.mono fun _ _ e => S₈.get e)) (by decide) ?_
      repeat tb_rel
      refine if_false ?_
      repeat tb_rel
      refine if_false ?_
      repeat tb_rel
      have hrs₈ := sR₈ _ _ (sub₁ _ _ hrs)
      have ar₈ := ar.mono (RcIs.mono (sub₁.trans sR₈).tup)
      have nlt₈ : ∀ xs, R₈ lr ≠ some (.tup xs) := fun xs => by rw [hrs₈]; intro e; cases e
      have nlc : c ≠ lr := fun q => by rw [← q, Rc'] at hrs; cases hrs
      refine for_list (S₈.get hrs₈) (.inr ⟨⟨_, _, _, rfl⟩, fun v hv => by obtain ⟨b, _, t, _, _, _, e, _⟩ := ar₈.mem hv; exact ⟨t, e⟩⟩)
        (fun i m H => ∃ R', HS 196 108 y R' M F st cur H ∧ Sub (del R₈ lr) R')
        ⟨_, S₈.del hrs₈, Sub.refl _⟩ ?_ ?_
      · rintro i v h m H₉ hv ⟨R₉, S₉, sub₉⟩
        obtain ⟨rc, hrc, t, tt, kv, tv, rfl, ht, t', ta, tw, o, rfl, ht'⟩ := ar₈.get hv
        have hrm := List.mem_of_getElem? hrc
        obtain ⟨k1, k2, k3, k4, k5⟩ := ok rc hrm
        obtain ⟨cb, hcb, e1, e2, ⟨e3, e4, e5⟩, e6, e7, e8, e9⟩ := rc_block I (pr.mem_iff.mp (List.mem_map.mpr ⟨rc, hrm, rfl⟩))
        have e1' : cb.a = rc.t - 8 := e1
        obtain ⟨z1, z2, z3, z4⟩ := bsz_ok k3
        have e6' : cb.n = bsz rc.w := by rw [← k1]; exact e6
        have ht₉ := sub₉ _ _ ((TupSub.del nlt₈) _ _ ht)
        have ht'₉ := sub₉ _ _ ((TupSub.del nlt₈) _ _ ht')
        have hc₉ := sub₉ _ _ (show del R₈ lr c = _ by rw [del_ne nlc]; exact sR₈ _ _ hc₁)
        refine w_unpack3 (S₉.get ht₉) ?_
        repeat tb_rel
        refine w_ListComp (cl := [("area", c)]) (by kernel_rfl) ?_ (by decide) (by kernel_rfl) (by decide) (by intro _; kernel_rfl)
        repeat tb_rel
        refine w_callB (by intro _ e; cases e) ?_ (by kernel_rfl) (by kernel_rfl)
        repeat tb_rel
        refine w_subT (S₉.get ht'₉) (by decide) (by decide) (by rfl) ?_ (by with_unfolding_all rfl)
        repeat tb_rel
        refine w_range3 (by decide) (noPylong_of (by decide) (by decide)) fun r hr => ?_
        have S₁₀ := S₉.add (ao := .rng rc.t (rc.t + rc.w) 4) hr
        refine comp_range (upd_self _ _ _) (r_small (by omega) (by omega) (by omega) (by omega) (.inr (by decide)) (by decide)) (rc.w / 4).toNat (by rw [rs_up (by decide) (by omega)]; omega) (by rw [sizeLine_eq]; omega)
          (fun i ys H => ∃ R', HS 196 108 y R' M F st cur H ∧ Sub R₉ R' ∧ All2 (DtV R') ys (List.replicate i (Dt.a (some rc.v)))) ⟨R₉, S₁₀, Sub.refl _, .nil⟩ ?_ ?_
        · rintro j v ys h' L' m' H₁₁ hj ⟨tj, rfl⟩ ⟨R₁₁, S₁₁, sub₁₁, ay⟩ hl
          have hcH := S₁₁.get (sub₁₁ _ _ hc₉)
          obtain ⟨u1, u2, fl6, vs6, n2, n3, n4, n5⟩ := S₁₁.hd
          obtain ⟨tm, hm⟩ := S₁₁.m.d
          repeat tb_rel
          unfold WTests
          refine if_true ?_
          repeat tb_rel
          refine w_field (gH_memory hX) S₁₁.hp n2 (by rfl) (by rfl) ?_
          refine w_meth (mM_word hX) S₁₁.m.a hm (by rfl) ?_
          refine w_callK (mM_word hX).k ?_ (by kernel_rfl) (by kernel_rfl)
          repeat tb_rel
          refine w_call (c_word hX S₁₁.m (by omega) (by omega) fun t => ?_) (by decide)
          refine ⟨R₁₁, S₁₁, sub₁₁, ?_⟩
          rw [List.replicate_succ', fu rc hrm ((rc.t + (j : Int) * 4) / 4) (by omega) (by omega)]
          exact ay.snoc ⟨_, rfl⟩
        · rintro ys H₁₁ ⟨R₁₁, S₁₁, sub₁₁, ay⟩ hl D₂ hD₂
          have S₁₂ := S₁₁.new (ao := .list ys) hD₂
          have RD₂ := S₁₁.fresh hD₂
          have hD₁₂ : upd R₁₁ D₂ (.list ys) D₂ = some (.list ys) := upd_self _ _ _
          have sub₁₂ : Sub R₉ (upd R₁₁ D₂ (.list ys)) := sub₁₁.trans (Sub.new RD₂)
          have ay₁₂ := ay.mono (DtV.mono (Sub.new (ao := .list ys) RD₂).tup)
          generalize upd R₁₁ D₂ (.list ys) = R₁₂ at *
          have ht'₁₂ := sub₁₂ _ _ ht'₉
          repeat tb_rel
          refine w_List ?_
          repeat tb_rel
          refine ⟨by rw [sizeLine_eq]; simp, fun D₃ hD₃ => ?_⟩
          have S₁₃ := S₁₂.add (ao := .list [.int rc.v tv]) hD₃
          repeat tb_rel
          refine w_subT (S₁₃.get ht'₁₂) (by decide) (by decide) (by rfl) ?_ (by with_unfolding_all rfl)
          repeat tb_rel
          refine w_fdiv (fun _ => ?_) (by decide) (noPylong_of (by decide) (by decide))
          rw [Int.fdiv_eq_ediv_of_nonneg _ (by decide)]
          refine w_mulL (upd_self _ _ _) (by omega) (by omega) (by simp; omega) fun D₄ hD₄ => ?_
          have S₁₄ := S₁₃.new (ao := .list (List.replicate (rc.w / 4).toNat [Value.int rc.v tv]).flatten) hD₄
          rw [flat_rep] at S₁₄ ⊢
          have RD₄ := S₁₃.fresh hD₄
          have sub₁₄ : Sub R₁₂ (upd R₁₂ D₄ (.list (List.replicate (rc.w / 4).toNat (Value.int rc.v tv)))) := Sub.new RD₄
          have hD₁₄ : upd R₁₂ D₄ (.list (List.replicate (rc.w / 4).toNat (Value.int rc.v tv))) D₄ = _ := upd_self _ _ _
          generalize upd R₁₂ D₄ (.list (List.replicate (rc.w / 4).toNat (Value.int rc.v tv))) = R₁₄ at *
          repeat tb_rel
          refine w_neL (S₁₄.get (sub₁₄ _ _ hD₁₂)) (S₁₄.get hD₁₄) (ay₁₂.mono (DtV.mono fun _ _ e => S₁₄.get (sub₁₄ _ _ e))) (rep_dt _) (by decide) ?_
          repeat tb_rel
          refine if_false ?_
          repeat tb_rel
          exact ⟨R₁₄, S₁₄, sub₉.trans (sub₁₂.trans sub₁₄)⟩
      · rintro m H₉ ⟨R₉, S₉, sub₉⟩ hlrn
        have S₁₀ := S₉.new (ao := .list rs) hlrn
        repeat tb_rel
        refine q _ _ (fun b ao e => ?_) S₁₀
        by_cases n : b = lr
        · subst n; rw [upd_self, ← hrs, e]
        · rw [upd_ne n]
          exact sub₉ _ _ (by rw [del_ne n]; exact sR₈ _ _ (sub₁ _ _ e))
end
end
section
section
variable {X : Fx} (hX : IsK X)
include hX
theorem b_max : BuiltOk X.K "max" (.builtin "max") := ⟨by rw [hX]; kernel_rfl, by rfl⟩
theorem b_sum : BuiltOk X.K "sum" (.builtin "sum") := ⟨by rw [hX]; kernel_rfl, by rfl⟩
theorem c_alloc1 {H : Hp} {y : Yd} {R : Hp} {M : Int → Int} {F : List Int} {st lim : Int} {Ls : Nat → List Int} {B : List Bk} {d : Int} {td : Tok} {Q : Value → Hp → Prop} (S : HS 196 108 y R M F st lim H) (I : Inv M F Ls B st lim) (D : DescOk M d)
    (q : ∀ H' M' F' Ls' told t, AR M F Ls B st lim d told M' F' Ls' → HS 196 108 y R M' F' st lim H' → Q (.int told t) H') : Spec X 6 (.ref 91) [.ref y.hp, .int d td] H Q :=
  spec_le (c_alloc hX S I D (fun H' t h S' => q H' M F Ls 0 t (.inl ⟨rfl, h, rfl, rfl, rfl⟩) S') (fun pre b suf M' F' Ls' H' t e h1 h2 K S' => q H' M' F' Ls' _ t (.inr ⟨pre, b, suf, e, h1, h2, K, rfl⟩) S')) (by decide)
theorem c_law {A : Around} {h₀ : Heap} {s : Shared} {l : Addr} {vs : List Value} {ns : List Int} (a : AOk A 12) (g : Grd X h₀) (kp : Keep h₀ s.heap) (hsz : h₀.objs.size ≤ s.heap.objs.size) (hl : h₀.IsList l vs.toArray) (hi : IntsAre vs ns) (hn : ns.length ≤ 63) :
    codeAny (model X.prog X.w) A (.call (.ref 243) ⟨[.ref l], []⟩) (fun r s' => ∃ v H', r = .ok (.ret v) ∧ Same s s' ∧ Keep h₀ s'.heap ∧ HIn h₀ H' s'.heap ∧ v = .bool true) s := by
  have np := (fn_pick hX).n
  have na := (fn_area hX).n
  have nso := (fn_sound hX).n
  have ns' := (fn_sweep hX).n
  have nlb := (fn_lblock hX).n
  have br := b_range hX
  have bs := b_sum hX
  have bm := b_max hX
  have bl := b_len hX
  have hlen := (ints_of hi).2
  refine call_defC (n := 11) (H := fun _ => none) (f := 243) (x := "hand") (v := none) (binds := [("script", .ref l)]) (m := fun y => if y = "script" then some (.ref l) else none) (Q := fun v _ => v = .bool true) (by rw [hX]; rfl) (by rw [hX]; rfl) (by rfl) (by intro k; rfl)
    (by
      intro k z hz
      simp only [List.mem_cons, List.not_mem_nil, or_false] at hz
      subst hz
      exact .inl (by kernel_rfl)) (by intro L; with_unfolding_all rfl) (by intro L; with_unfolding_all rfl) (fun C c hC hc => ?_) a g kp hsz (fun _ _ e => nomatch e)
  have hl' : C.h₀.IsList l vs.toArray := by rw [hC]; exact hl
  iterate 2 tb_rel
  refine w_slice (by rfl) hl' hi (by rw [sizeLine_eq]; omega) (by decide) (fun cl ys hcl hys => ?_) (by kernel_rfl) (by kernel_rfl) (by kernel_rfl) (by kernel_rfl)
  obtain ⟨yi, yl⟩ := ints_of hys
  have hcc : upd (upd (fun _ => none) c (.cell none)) cl (.list ys) c = some (.cell none) := by
    rw [upd_ne (fun q => by rw [q, upd_self] at hcl; cases hcl)]; exact upd_self _ _ _
  repeat tb_rel
  refine w_List ?_
  repeat tb_rel
  refine w_callB (by intro _ e; cases e) ?_ (by kernel_rfl) (by kernel_rfl)
  repeat tb_rel
  refine w_sum (upd_self _ _ _) yi fun _ => ?_
  repeat tb_rel
  refine w_fmod (fun _ => ?_) (by decide)
  rw [Int.fmod_eq_emod_of_nonneg _ (by decide)]
  repeat tb_rel
  refine w_mul (fun tsd => ?_) (.of_right (by decide))
  repeat tb_rel
  rename_i t01 t02 _ _ _ _
  refine ⟨by rw [sizeLine_eq]; simp, fun hd hhd => ?_⟩
  have n1 : hd ≠ cl := fun q => by rw [q, upd_self] at hhd; cases hhd
  have n2 : hd ≠ c := fun q => by rw [q, hcc] at hhd; cases hhd
  repeat tb_rel
  refine w_storeCell (v₀ := none) (by with_unfolding_all rfl) (by rw [upd_ne (Ne.symm n2)]; exact hcc) ?_ (by kernel_rfl) (by kernel_rfl)
  generalize hk0 : preSum (fun i => valI ys[i]?) ys.length % 100003 * 7 = k0
  have k0' : 0 ≤ k0 ∧ k0 < 2147483647 := by omega
  have hcl' : (upd (upd (upd (upd (fun _ => none) c (.cell none)) cl (.list ys)) hd (.list [.ref cl, .int 0 t01, .int 0 t02, .int k0 tsd])) c (.cell (some (.ref hd)))) cl = some (.list ys) := by
    rw [upd_ne (fun q => by rw [q, upd_self] at hcl; cases hcl), upd_ne (Ne.symm n1), upd_self]
  have hh : HandIs hd cl (upd (upd (upd (upd (fun _ => none) c (.cell none)) cl (.list ys)) hd (.list [.ref cl, .int 0 t01, .int 0 t02, .int k0 tsd])) c (.cell (some (.ref hd)))) := by
    refine ⟨ys, [.ref cl, .int 0 t01, .int 0 t02, .int k0 tsd], ?_, ⟨hcl', yi, ?_, 0, 0, k0, t01, t02, tsd, rfl, by decide, by omega, by decide, k0'.1, k0'.2⟩, Ne.symm n1⟩
    · rw [upd_ne n2, upd_self]
    · rw [yl, List.length_take]; omega
  have hcell : (upd (upd (upd (upd (fun _ => none) c (.cell none)) cl (.list ys)) hd (.list [.ref cl, .int 0 t01, .int 0 t02, .int k0 tsd])) c (.cell (some (.ref hd)))) c = some (.cell (some (.ref hd))) := upd_self _ _ _
  generalize (upd (upd (upd (upd (fun _ => none) c (.cell none)) cl (.list ys)) hd (.list [.ref cl, .int 0 t01, .int 0 t02, .int k0 tsd])) c (.cell (some (.ref hd)))) = H₁ at *
  clear hcc hhd hcl hcl'
  have nc : c ≠ hd := Ne.symm n2
  repeat tb_rel
  refine w_callK (fn_area hX).k ?_ (by kernel_rfl) (by kernel_rfl)
  repeat tb_rel
  refine w_callK (fn_pick hX).k ?_ (by kernel_rfl) (by kernel_rfl)
  repeat tb_rel
  refine w_call (c_pick hX hh (Sub.refl _) (by decide) (by decide) fun p0 tp L₂ p1 p2 hh₂ => ?_) (by decide)
  have hcell₂ : upd H₁ hd (.list L₂) c = some (.cell (some (.ref hd))) := by rw [upd_ne nc]; exact hcell
  generalize upd H₁ hd (.list L₂) = H₂ at *
  repeat tb_rel
  refine w_call (c_area hX hh₂ (Sub.refl _) (by omega) (by omega) fun y R₃ M₃ F₃ Ls₃ kl ks kinds t₃ H₃ S₃ I₃ ht₃ hkl al k1 k4 ko hh₃ sx₃ nkl ncl => ?_) (by decide)
  have hc₃ := sx₃.at hcell₂ nc
  have hcH := S₃.get hc₃
  refine w_unpack2 (S₃.get ht₃) ?_
  have nlk : kl ≠ c := fun q => by rw [q, hc₃] at hkl; cases hkl
  repeat tb_rel
  refine w_List ?_
  repeat tb_rel
  refine ⟨by rw [sizeLine_eq]; simp, fun l hln => ?_⟩
  have S₄ := S₃.new (ao := .list []) hln
  have Rl := S₃.fresh hln
  have sub₄ : Sub R₃ (upd R₃ l (.list [])) := Sub.new Rl
  have hl₄ : upd R₃ l (.list []) l = some (.list []) := upd_self _ _ _
  have hh₄ : HandIs hd cl (upd R₃ l (.list [])) := hh₃.sub sub₄
  have nlh : l ≠ hd := fun q => by obtain ⟨L, e⟩ := hh₃.is; rw [q, e] at Rl; cases Rl
  have nll : l ≠ cl := fun q => by obtain ⟨L, e⟩ := hh₃.cs; rw [q, e] at Rl; cases Rl
  have nlc : l ≠ c := fun q => by rw [q, hc₃] at Rl; cases Rl
  have nlkl : l ≠ kl := fun q => by rw [q, hkl] at Rl; cases Rl
  generalize upd R₃ l (.list []) = R₄ at *
  have hcH₄ := S₄.get (sub₄ _ _ hc₃)
  repeat tb_rel
  refine w_callB (by intro _ e; cases e) ?_ (by kernel_rfl) (by kernel_rfl)
  repeat tb_rel
  refine w_callK (fn_pick hX).k ?_ (by kernel_rfl) (by kernel_rfl)
  repeat tb_rel
  refine w_call (c_pick hX hh₄ (fun b ao e => S₄.get e) (by decide) (by decide) fun q0 tq L₅ q1 q2 hh₅ => ?_) (by decide)
  have S₅ := S₄.set (ao := .list L₅) (hh₄.is.choose_spec)
  have sx₅ : SubX hd R₄ (upd R₄ hd (.list L₅)) := SubX.upd
  have nth₄ : ∀ xs, R₄ hd ≠ some (.tup xs) := fun xs => by obtain ⟨L, e⟩ := hh₄.is; rw [e]; intro q; cases q
  generalize upd R₄ hd (.list L₅) = R₅ at *
  repeat tb_rel
  refine w_range1 fun r hr => ?_
  have S₆ := S₅.add (ao := .rng 0 (1 + q0) 1) hr
  have J₀ : L1 196 108 y hd cl c kl ks kinds (1024 + 16 * (4 + p0)) l [] [] R₅ M₃ F₃ Ls₃ [⟨1024, 16 * (4 + p0), none⟩] _ :=
    ⟨S₆, I₃, hh₅, sx₅.at (sub₄ _ _ hc₃) nc, nlh, nll, nlc, nlkl, sx₅.at (sub₄ _ _ hkl) nkl, al.mono (KindIs.mono (sub₄.tup.trans (sx₅.tup nth₄))), sx₅.at hl₄ nlh, .nil, by simp [usedOf], fun _ h => (nomatch h), Full.nil _,
      fun b hb h => by rw [List.mem_singleton.mp hb] at h; exact absurd rfl h, ko⟩
  clear S₃ S₄ S₅ S₆ hcH hcH₄ hh₂ hh₃ hh₄ hh₅ hc₃ I₃ ko sx₃ sub₄ hl₄ hcell hcell₂ sx₅ nth₄
  refine for_range (upd_self _ _ _) (r_small (by omega) (by omega) (by omega) (by omega) (.inr (by decide)) (by decide)) (1 + q0).toNat (by rw [rs_one (by omega)]; omega)
    (fun i m H => m "area" = some (.ref y.hp) ∧ m "kinds" = some (.ref kl) ∧ ∃ l rs recs R M F Ls B, m "records" = some (.ref l) ∧ L1 196 108 y hd cl c kl ks kinds (1024 + 16 * (4 + p0)) l rs recs R M F Ls B H ∧ recs.length ≤ i)
    ⟨by with_unfolding_all rfl, by with_unfolding_all rfl, l, [], [], _, _, _, _, _, by with_unfolding_all rfl, J₀, Nat.le_refl _⟩ (fun i ti h m H hi hJ => ?_) (fun m H hJ => ?_) (by rfl) (by rfl) (by with_unfolding_all rfl)
  · obtain ⟨ga, gk, l, rs, recs, R, M, F, Ls, B, gr, J, hlen⟩ := hJ
    have gt : setm m "turn" (.int (0 + (i : Int) * 1) ti) "turn" = some (.int (0 + (i : Int) * 1) ti) := by with_unfolding_all rfl
    have ga' : setm m "turn" (.int (0 + (i : Int) * 1) ti) "area" = some (.ref y.hp) := by with_unfolding_all assumption
    have gk' : setm m "turn" (.int (0 + (i : Int) * 1) ti) "kinds" = some (.ref kl) := by with_unfolding_all assumption
    have gr' : setm m "turn" (.int (0 + (i : Int) * 1) ti) "records" = some (.ref l) := by with_unfolding_all assumption
    generalize setm m "turn" (.int (0 + (i : Int) * 1) ti) = m₁ at *
    clear ga gk gr
    have S := J.s
    have hcH := S.get J.hc
    refine w_cons (w_mono (Q := fun f m H => f = .next ∧ m "area" = some (.ref y.hp) ∧ m "kinds" = some (.ref kl) ∧ ∃ l rs recs R M F Ls B, m "records" = some (.ref l) ∧ L1 196 108 y hd cl c kl ks kinds (1024 + 16 * (4 + p0)) l rs recs R M F Ls B H ∧ recs.length ≤ i + 1) ?_ ?_)
    · repeat tb_rel
      refine w_callK (fn_pick hX).k ?_ (by kernel_rfl) (by kernel_rfl)
      repeat tb_rel
      refine w_call (c_pick hX J.hh (fun b ao e => S.get e) (by decide) (by decide) fun z0 tz L₂ z1 z2 hh₂ => ?_) (by decide)
      have S₂ := S.set (ao := .list L₂) (J.hh.is.choose_spec)
      have J₂ := J.to S₂ hh₂ SubX.upd nc nkl
      generalize upd R hd (.list L₂) = R₂ at *
      clear S hcH J
      repeat tb_rel
      refine if_beq (fun _ => ?_) (fun _ => ?_)
      · have hcH₂ := S₂.get J₂.hc
        have hrl := J₂.ar.len
        have I := J₂.inv
        have nld : ∀ xs, R₂ l ≠ some (.tup xs) := fun xs => by rw [J₂.hl]; intro e; cases e
        tb_rel
        refine w_AssignComp (cl := [("hand", c)]) (by kernel_rfl) ?_ (by kernel_rfl) (by decide) (by kernel_rfl) (by decide) (by kernel_rfl) (by kernel_rfl) (by kernel_rfl) (by intro _; kernel_rfl)
        repeat tb_rel
        refine comp_list (S₂.get J₂.hl) (by rw [sizeLine_eq]; omega) (.inl ⟨_, _, rfl⟩)
          (fun i ys H => ∃ R' recs', HS 196 108 y R' M F 1024 (1024 + 16 * (4 + p0)) H ∧ HandIs hd cl R' ∧ SubX hd (del R₂ l) R' ∧ All2 (RcIs R') ys recs' ∧ recs'.Sublist (recs.take i))
          ⟨_, [], S₂.del J₂.hl, J₂.hh.keep (del_ne (Ne.symm J₂.nh)) (del_ne (Ne.symm J₂.nl)), SubX.refl _ _, .nil, List.nil_sublist _⟩ ?_ ?_
        · rintro j v ys' h' L' m' H₇ hj hv ⟨R₇, recs', S₇, hh₇, sx₇, ays, sl⟩ hl₇
          have hc₇ := S₇.get (sx₇.at (show del R₂ l c = _ by rw [del_ne (Ne.symm J₂.nc)]; exact J₂.hc) nc)
          obtain ⟨rc, hrc, hrv⟩ := J₂.ar.get hv
          have nth₇ : ∀ xs, del R₂ l hd ≠ some (.tup xs) := fun xs => by rw [del_ne (Ne.symm J₂.nh)]; obtain ⟨L, e⟩ := J₂.hh.is; rw [e]; intro q; cases q
          have hrv₇ : RcIs R₇ v rc := RcIs.mono ((TupSub.del nld).trans (sx₇.tup nth₇)) v rc hrv
          repeat tb_rel
          unfold WTests
          repeat tb_rel
          refine w_callK (fn_pick hX).k ?_ (by kernel_rfl) (by kernel_rfl)
          repeat tb_rel
          refine w_call (c_pick hX hh₇ (fun b ao e => S₇.get e) (by decide) (by decide) fun u0 tu L₈ u1 u2 hh₈ => ?_) (by decide)
          have S₈ := S₇.set (ao := .list L₈) (hh₇.is.choose_spec)
          have sx₈ : SubX hd R₇ (upd R₇ hd (.list L₈)) := SubX.upd
          have nth₈ : ∀ xs, R₇ hd ≠ some (.tup xs) := fun xs => by obtain ⟨L, e⟩ := hh₇.is; rw [e]; intro q; cases q
          generalize upd R₇ hd (.list L₈) = R₈ at *
          have ays₈ := ays.mono (RcIs.mono (sx₈.tup nth₈))
          have etk : recs.take (j + 1) = recs.take j ++ [rc] := by rw [List.take_add_one, hrc]; rfl
          repeat tb_rel
          refine if_beq (fun _ => ?_) (fun _ => ?_)
          · repeat tb_rel
            exact ⟨R₈, recs' ++ [rc], S₈, hh₈, sx₇.trans sx₈, ays₈.snoc (RcIs.mono (sx₈.tup nth₈) v rc hrv₇), by rw [etk]; exact sl.append (List.Sublist.refl _)⟩
          · exact ⟨R₈, recs', S₈, hh₈, sx₇.trans sx₈, ays₈, by rw [etk]; exact sl.trans (List.sublist_append_left _ _)⟩
        · rintro ys' H₇ ⟨R₇, recs', S₇, hh₇, sx₇, ays, sl⟩ hl₇ hlr D hD
          have sl' : recs'.Sublist recs := sl.trans (List.take_sublist _ _)
          have hc₇ := sx₇.at (show del R₂ l c = _ by rw [del_ne (Ne.symm J₂.nc)]; exact J₂.hc) nc
          have hk₇ := sx₇.at (show del R₂ l kl = _ by rw [del_ne (Ne.symm J₂.nk)]; exact J₂.hk) nkl
          have nth₂ : ∀ xs, del R₂ l hd ≠ some (.tup xs) := fun xs => by rw [del_ne (Ne.symm J₂.nh)]; obtain ⟨L, e⟩ := J₂.hh.is; rw [e]; intro q; cases q
          have al₇ := J₂.al.mono (KindIs.mono ((TupSub.del nld).trans (sx₇.tup nth₂)))
          have S₈ := (S₇.add (ao := .list rs) hlr).new (ao := .list ys') hD
          have RD : R₇ D = none := (S₇.add (ao := .list rs) hlr).fresh hD
          have s₈ : Sub R₇ (upd R₇ D (.list ys')) := Sub.new RD
          have hh₈ : HandIs hd cl (upd R₇ D (.list ys')) := hh₇.sub s₈
          have hc₈ := s₈ _ _ hc₇
          have hk₈ := s₈ _ _ hk₇
          have al₈ := al₇.mono (KindIs.mono s₈.tup)
          have ays₈ := ays.mono (RcIs.mono s₈.tup)
          have nDh : D ≠ hd := fun q => by obtain ⟨L, e⟩ := hh₇.is; rw [q, e] at RD; cases RD
          have nDl : D ≠ cl := fun q => by obtain ⟨L, e⟩ := hh₇.cs; rw [q, e] at RD; cases RD
          have nDc : D ≠ c := fun q => by rw [q, hc₇] at RD; cases RD
          have nDk : D ≠ kl := fun q => by rw [q, hk₇] at RD; cases RD
          have hD₈ : upd R₇ D (.list ys') D = some (.list ys') := upd_self _ _ _
          generalize upd R₇ D (.list ys') = R₈ at *
          have pr : ((recs.map Rc.r).map Rec.key).Perm (usedOf B) := by rw [List.map_map]; exact J₂.pr
          have hkey : ∀ r ∈ recs'.map Rc.r, r.key ∈ usedOf B := fun r hr => pr.mem_iff.mp (List.mem_map.mpr ⟨r, (sl'.map Rc.r).subset hr, rfl⟩)
          have hyl := ays₈.len
          have nDt : ∀ xs, R₈ D ≠ some (.tup xs) := fun xs => by rw [hD₈]; intro e; cases e
          repeat tb_rel
          refine for_list (S₈.get hD₈) (.inl ⟨_, _, rfl⟩)
            (fun i m H => m "area" = some (.ref y.hp) ∧ m "kinds" = some (.ref kl) ∧ m "kept" = some (.ref D) ∧ ∃ M', HS 196 108 y (del R₈ D) M' F 1024 (1024 + 16 * (4 + p0)) H ∧ Marked M ((recs'.take i).map Rc.r) M')
            ⟨by with_unfolding_all assumption, by with_unfolding_all assumption, by with_unfolding_all rfl, M, S₈.del hD₈, Marked.nil _⟩ ?_ ?_
          · rintro i v h m H₉ hv ⟨ga, gk, gd, M', S₉, mk⟩
            obtain ⟨rc, hrc, t, tt, kv, tv, rfl, ht, hkv⟩ := ays₈.get hv
            have ht₉ : del R₈ D t = _ := (TupSub.del nDt) _ _ ht
            obtain ⟨b, hb, e1, e2, ⟨o1, o2, o3⟩⟩ := key_block I hkey (List.mem_map.mpr ⟨rc, List.mem_of_getElem? hrc, rfl⟩)
            have e1' : b.a = rc.t - 8 := e1
            obtain ⟨t1, t2, fl, vs', j2, j3, j4, j5⟩ := S₉.hd
            obtain ⟨tm, hm⟩ := S₉.m.d
            repeat tb_rel
            refine w_field (gH_memory hX) S₉.hp j2 (by rfl) (by rfl) ?_
            refine w_meth (mM_put hX) S₉.m.a hm (by rfl) ?_
            refine w_callK (mM_put hX).k ?_ (by kernel_rfl) (by kernel_rfl)
            repeat tb_rel
            refine w_subT (S₉.get ht₉) (by decide) (by decide) (by rfl) ?_ (by with_unfolding_all rfl)
            repeat tb_rel
            refine w_call (c_putH hX S₉ (by omega) (by omega) fun H₁₀ S₁₀ => ?_) (by decide)
            repeat tb_rel
            refine ⟨by with_unfolding_all assumption, by with_unfolding_all assumption, by with_unfolding_all assumption, _, S₁₀, ?_⟩
            rw [show recs'.take (i + 1) = recs'.take i ++ [rc] by rw [List.take_add_one, hrc]; rfl, List.map_append]
            exact mk.snoc rc.r (by decide) (by decide)
          · rintro m H₉ ⟨ga, gk, gd, M', S₉, mk⟩ hDn
            rw [show recs'.take ys'.length = recs' by rw [hyl]; exact List.take_length] at mk
            have S₁₀ := S₉.new (ao := .list ys') hDn
            have I₁₀ := inv_marked I hkey mk
            repeat tb_rel
            refine w_callK (fn_sweep hX).k ?_ (by kernel_rfl) (by kernel_rfl)
            repeat tb_rel
            refine w_call (c_sweep hX S₁₀ I₁₀ fun H₁₁ R₁₁ M₁₁ F₁₁ Ls₁₁ B₁₁ ts sub₁₁ S₁₁ sw => ?_) (by decide)
            obtain ⟨pk, mz⟩ := swept_keys I pr (sl'.map Rc.r) mk J₂.mz sw
            have sD : ∀ b ao, b ≠ D → R₈ b = some ao → R₁₁ b = some ao := fun b ao n e => sub₁₁ _ _ (by rw [upd_ne n, del_ne n]; exact e)
            have tD : TupSub R₈ R₁₁ := fun b xs e => sD b _ (fun q => by rw [q] at e; exact nDt xs e) e
            repeat tb_rel
            refine ⟨rfl, ga, gk, D, ys', recs', R₁₁, M₁₁, F₁₁, Ls₁₁, B₁₁, by with_unfolding_all rfl, ⟨S₁₁, sw.inv, ?_, sD _ _ (Ne.symm nDc) hc₈, nDh, nDl, nDc, nDk, sD _ _ (Ne.symm nDk) hk₈, al₈.mono (KindIs.mono tD), sub₁₁ _ _ (upd_self _ _ _), ays₈.mono (RcIs.mono tD), ?_,
              fun r hr => J₂.km r (sl'.subset hr), swept_full I J₂.pr sl' mk sw J₂.fu J₂.ok, mz, ?_⟩, ?_⟩
            · obtain ⟨xs, L, e1, e2, e3⟩ := hh₈
              exact ⟨xs, L, sD _ _ (Ne.symm nDh) e1, ⟨sD _ _ (Ne.symm nDl) e2.c, e2.i, e2.l, e2.h⟩, e3⟩
            · rw [List.map_map] at pk; exact pk
            · refine J₂.ko.low fun k hk => ?_
              rw [sw.low k hk, mk.k k fun r hr => ?_]
              obtain ⟨b, hb, e1, e2, ⟨o1, o2, o3⟩⟩ := key_block I hkey hr
              omega
            · have := sl'.length_le; omega
      · have I := J₂.inv
        have hkz := J₂.al.len
        obtain ⟨t1, t2, fl, vs, j2, j3, j4, j5⟩ := S₂.hd
        have hcH₂ := S₂.get J₂.hc
        repeat tb_rel
        refine w_callK (fn_pick hX).k ?_ (by kernel_rfl) (by kernel_rfl)
        repeat tb_rel
        refine w_callB (by intro _ e; cases e) ?_ (by kernel_rfl) (by kernel_rfl)
        repeat tb_rel
        refine w_len (S₂.get J₂.hk) (by omega) fun _ => ?_
        repeat tb_rel
        refine w_call (c_pick hX J₂.hh (fun b ao e => S₂.get e) (by omega) (by omega) fun u0 tu L₃ u1 u2 hh₃ => ?_) (by decide)
        have S₃ := S₂.set (ao := .list L₃) (J₂.hh.is.choose_spec)
        have J₃ := J₂.to S₃ hh₃ SubX.upd nc nkl
        generalize upd R₂ hd (.list L₃) = R₃ at *
        clear hcH₂ J₂ S₂ j2 j3 j4 j5
        have hlt : u0.toNat < kinds.length := by omega
        obtain ⟨v, hv, hkind⟩ := J₃.al.getR (List.getElem?_eq_getElem hlt)
        have hkm : kinds[u0.toNat] ∈ kinds := List.getElem_mem hlt
        generalize kinds[u0.toNat] = kd at *
        obtain ⟨tk, ta, tw, o, rfl, htk⟩ := hkind
        have D := J₃.ko.desc hkm
        obtain ⟨w1, w2, w3, w4, w5⟩ := J₃.ko _ hkm
        obtain ⟨z1', z2', z3', z4'⟩ := bsz_ok w4
        obtain ⟨t1, t2, fl, vs, j2, j3, j4, j5⟩ := S₃.hd
        refine w_subL (S₃.get J₃.hk) u1 (by omega) hv ?_ (by with_unfolding_all rfl)
        repeat tb_rel
        refine w_AssignComp (cl := []) (by kernel_rfl) ?_ (by kernel_rfl) (by decide) (by kernel_rfl) (by decide) (by kernel_rfl) (by kernel_rfl) (by kernel_rfl) (by intro _; kernel_rfl)
        repeat tb_rel
        refine w_meth (mH_blocks hX) S₃.hp j2 (by rfl) ?_
        refine w_callK0 (mH_blocks hX).k ?_
        refine w_call (c_blocks hX S₃ I fun H₄ R₄ lb vb sub₄ S₄ hlb nlb alb => ?_) (by decide)
        have hbl := alb.len
        have htl := tiles_len I.ti fun c hc => (I.ok c hc).n
        have nltb : ∀ xs, R₄ lb ≠ some (.tup xs) := fun xs => by rw [hlb]; intro e; cases e
        refine comp_list (S₄.get hlb) (by rw [sizeLine_eq]; omega) (.inr ⟨⟨_, _, _, rfl⟩, fun v hv => by obtain ⟨b, _, t, _, _, _, e, _⟩ := alb.mem hv; exact ⟨t, e⟩⟩)
          (fun i ys H => ∃ R', HS 196 108 y R' M F 1024 (1024 + 16 * (4 + p0)) H ∧ Sub (del R₄ lb) R' ∧ IntsAre ys (fsz (B.take i))) ⟨_, S₄.del hlb, Sub.refl _, .nil⟩ ?_ ?_
        · rintro j v ys' h' L' m' H₇ hj hv ⟨R₇, S₇, sub₇, iy⟩ hl₇
          obtain ⟨b, hb, t, ta', tn, dv, rfl, ht, hdv⟩ := alb.get hv
          have ht₇ := sub₇ _ _ ((TupSub.del nltb) _ _ ht)
          have etk : B.take (j + 1) = B.take j ++ [b] := by rw [List.take_add_one, hb]; rfl
          refine w_unpack3 (S₇.get ht₇) ?_
          repeat tb_rel
          unfold WTests
          repeat tb_rel
          cases hbd : b.d with
          | none =>
            rw [hbd] at hdv
            have hdv : dv = .none := hdv
            subst hdv
            refine w_is (by rfl) ?_
            repeat tb_rel
            refine if_true ?_
            repeat tb_rel
            exact ⟨R₇, S₇, sub₇, by rw [etk, fsz_free hbd]; exact ints_snoc iy⟩
          | some d =>
            rw [hbd] at hdv
            obtain ⟨td, rfl⟩ : ∃ td, dv = .int d td := hdv
            refine w_is (by rfl) ?_
            repeat tb_rel
            refine if_false ?_
            exact ⟨R₇, S₇, sub₇, by rw [etk, fsz_used (by rw [hbd]; simp)]; exact iy⟩
        · rintro ys' H₇ ⟨R₇, S₇, sub₇, iy⟩ hl₇ hlbn Dl hDl
          rw [show B.take vb.length = B by rw [hbl]; exact List.take_length] at iy
          have S₈ := (S₇.add (ao := .list vb) hlbn).new (ao := .list ys') hDl
          have RD := (S₇.add (ao := .list vb) hlbn).fresh hDl
          have sub₈ : Sub R₃ (upd R₇ Dl (.list ys')) := fun b ao e => by
            have e₇ := sub₇ b ao (by rw [del_ne (fun q => by rw [q, nlb] at e; cases e)]; exact sub₄ _ _ e)
            rw [upd_ne (fun q => by rw [q, RD] at e₇; cases e₇)]; exact e₇
          have hDl₈ : upd R₇ Dl (.list ys') Dl = some (.list ys') := upd_self _ _ _
          generalize upd R₇ Dl (.list ys') = R₈ at *
          have J₈ := J₃.to S₈ (hh₃.sub sub₈) sub₈.x nc nkl
          have htk₈ := sub₈ _ _ htk
          clear S₄ S₇ J₃ S₃ sub₇ alb sub₄ hh₃
          obtain ⟨t1', t2', fl', vs', l2, l3, l4, l5⟩ := S₈.hd
          repeat tb_rel
          refine w_meth (mH_alloc hX) S₈.hp l2 (by rfl) ?_
          refine w_callK (mH_alloc hX).k ?_ (by kernel_rfl) (by kernel_rfl)
          repeat tb_rel
          refine w_subT (S₈.get htk₈) (by decide) (by decide) (by rfl) ?_ (by with_unfolding_all rfl)
          repeat tb_rel
          refine w_call (c_alloc1 hX S₈ I D fun H₉ M₉ F₉ Ls₉ told t9 A₉ S₉ => ?_) (by decide)
          repeat tb_rel
          refine w_callB (by intro _ e; cases e) ?_ (by kernel_rfl) (by kernel_rfl)
          repeat tb_rel
          refine w_List ?_
          repeat tb_rel
          rename_i t00
          refine ⟨by rw [sizeLine_eq]; simp, fun D₂ hD₂ => ?_⟩
          have S₁₀ := S₉.new (ao := .list [.int 0 t00]) hD₂
          have R9 := S₉.fresh hD₂
          have sub₁₀ : Sub R₈ (upd R₈ D₂ (.list [.int 0 t00])) := Sub.new R9
          have hD₁₀ : upd R₈ D₂ (.list [.int 0 t00]) D₂ = some (.list [.int 0 t00]) := upd_self _ _ _
          generalize upd R₈ D₂ (.list [.int 0 t00]) = R₁₀ at *
          have iyl := IntsAre.length iy
          have hfl : (fsz B).length ≤ B.length := by unfold fsz frees; rw [List.length_map]; exact List.length_filter_le _ _
          repeat tb_rel
          refine w_addL (S₁₀.get (sub₁₀ _ _ hDl₈)) (S₁₀.get hD₁₀) (by rw [sizeLine_eq]; simp; omega) fun D₃ hD₃ => ?_
          have S₁₁ := S₁₀.add (ao := .list (ys' ++ [.int 0 t00])) hD₃
          repeat tb_rel
          refine w_max (upd_self _ _ _) (ints_snoc iy) (by simp) fun mx tm hm1 hm2 => ?_
          have htk₁₀ := sub₁₀ _ _ htk₈
          repeat tb_rel
          refine w_callK (fn_lblock hX).k ?_ (by kernel_rfl) (by kernel_rfl)
          repeat tb_rel
          refine w_subT (S₁₁.get htk₁₀) (by decide) (by decide) (by rfl) ?_ (by with_unfolding_all rfl)
          repeat tb_rel
          refine w_call (c_lblock hX (r := kd.2) fun tb => ?_) (by decide)
          repeat tb_rel
          refine w_neB ?_
          repeat tb_rel
          rw [A₉.test I w2 w4 hm1 hm2]
          refine if_false ?_
          repeat tb_rel
          clear S₈ S₉ S₁₀ l2 l3 l4 l5 hD₁₀ hDl₈ htk htk₈ hm1 hm2 iy
          have hh₁₀ := J₈.hh.sub sub₁₀
          rcases A₉ with ⟨rfl, hno, rfl, rfl, rfl⟩ | ⟨pre, b, suf, eB, hbd, hle, K, rfl⟩
          · refine if_bne (fun h => absurd rfl h) (fun _ => ?_)
            repeat tb_rel
            exact ⟨rfl, by with_unfolding_all assumption, by with_unfolding_all assumption, l, rs, recs, R₁₀, _, _, _, B, by with_unfolding_all assumption, J₈.to S₁₁ hh₁₀ sub₁₀.x nc nkl, by omega⟩
          · have hb' : b ∈ B := by rw [eB]; simp
            obtain ⟨o1, o2, o3⟩ := (I.ok b hb').a
            have o4 := (tiles_bd I.ti I.pos).2 b hb'
            rw [w2] at hle K
            refine if_bne (fun _ => ?_) (fun h => by omega)
            obtain ⟨t1'', t2'', fl'', vs'', n2, n3, n4, n5⟩ := S₁₁.hd
            obtain ⟨tmm, hmm⟩ := S₁₁.m.d
            repeat tb_rel
            refine w_field (gH_start hX) S₁₁.hp n2 (by rfl) (by rfl) ?_
            repeat tb_rel
            refine if_dec (fun h => by omega) (fun _ => ?_)
            repeat tb_rel
            refine w_subT (S₁₁.get htk₁₀) (by decide) (by decide) (by rfl) ?_ (by with_unfolding_all rfl)
            repeat tb_rel
            refine w_field (gH_limit hX) S₁₁.hp n2 (by rfl) (by rfl) ?_
            repeat tb_rel
            refine if_dec (fun h => by omega) (fun _ => ?_)
            repeat tb_rel
            refine w_field (gH_memory hX) S₁₁.hp n2 (by rfl) (by rfl) ?_
            refine w_meth (mM_word hX) S₁₁.m.a hmm (by rfl) ?_
            refine w_callK (mM_word hX).k ?_ (by kernel_rfl) (by kernel_rfl)
            repeat tb_rel
            refine w_call (c_word hX S₁₁.m (by omega) (by omega) fun tz => ?_) (by decide)
            rw [K.zero _ (by omega) (by omega)]
            repeat tb_rel
            refine if_bne (fun h => absurd rfl h) (fun _ => ?_)
            repeat tb_rel
            refine if_false ?_
            repeat tb_rel
            refine w_callB (by intro _ e; cases e) ?_ (by kernel_rfl) (by kernel_rfl)
            repeat tb_rel
            refine w_subT (S₁₁.get htk₁₀) (by decide) (by decide) (by rfl) ?_ (by with_unfolding_all rfl)
            repeat tb_rel
            refine w_range3 (by decide) (noPylong_of (by decide) (by decide)) fun r hr => ?_
            have S₁₂ := S₁₁.add (ao := .rng (b.a + 8) (b.a + 8 + kd.2) 4) hr
            clear S₁₁ n2 n3 n4 n5 hmm
            have hv0 : 0 ≤ 2 * (0 + (i : Int) * 1) + 7 ∧ 2 * (0 + (i : Int) * 1) + 7 < 1000 := by omega
            refine for_range (upd_self _ _ _) (r_small (by omega) (by omega) (by omega) (by omega) (.inr (by decide)) (by decide)) (kd.2 / 4).toNat (by rw [rs_up (by decide) (by omega)]; omega)
              (fun j m H => m "area" = some (.ref y.hp) ∧ m "kinds" = some (.ref kl) ∧ m "records" = some (.ref l) ∧ m "kind" = some (.ref tk) ∧ m "told" = some (.int (b.a + 8) t9) ∧ m "turn" = some (.int (0 + (i : Int) * 1) ti) ∧
                HS 196 108 y R₁₀ (fw M₉ (b.a + 8) j (2 * (0 + (i : Int) * 1) + 7)) F₉ 1024 (1024 + 16 * (4 + p0)) H)
              ⟨by with_unfolding_all assumption, by with_unfolding_all assumption, by with_unfolding_all assumption, by with_unfolding_all rfl, by with_unfolding_all rfl, by with_unfolding_all assumption, by rw [fw_zero]; exact S₁₂⟩ (fun j tj h m H hj hJ => ?_) (fun m H hJ => ?_) (by rfl) (by rfl) (by with_unfolding_all rfl)
            · obtain ⟨g1, g2, g3, g4, g5, g6, S₁₃⟩ := hJ
              obtain ⟨t1'', t2'', fl'', vs'', n2, n3, n4, n5⟩ := S₁₃.hd
              obtain ⟨tmm, hmm⟩ := S₁₃.m.d
              repeat tb_rel
              refine w_field (gH_memory hX) S₁₃.hp n2 (by rfl) (by rfl) ?_
              refine w_meth (mM_word hX) S₁₃.m.a hmm (by rfl) ?_
              refine w_callK (mM_word hX).k ?_ (by kernel_rfl) (by kernel_rfl)
              repeat tb_rel
              refine w_call (c_word hX S₁₃.m (by omega) (by omega) fun tz => ?_) (by decide)
              rw [fw_out (.inr (by omega)), K.zero _ (by omega) (by omega)]
              repeat tb_rel
              refine if_bne (fun h => absurd rfl h) (fun _ => ?_)
              repeat tb_rel
              refine w_field (gH_memory hX) S₁₃.hp n2 (by rfl) (by rfl) ?_
              refine w_meth (mM_put hX) S₁₃.m.a hmm (by rfl) ?_
              refine w_callK (mM_put hX).k ?_ (by kernel_rfl) (by kernel_rfl)
              repeat tb_rel
              refine w_mul (fun _ => ?_) (.of_left (by decide))
              repeat tb_rel
              refine w_call (c_putH hX S₁₃ (by omega) (by omega) fun H₁₄ S₁₄ => ?_) (by decide)
              rw [fw_succ _ _ _ _ (by omega) hv0.1 (by omega)] at S₁₄
              repeat tb_rel
              exact ⟨g1, g2, g3, g4, g5, g6, S₁₄⟩
            · obtain ⟨g1, g2, g3, g4, g5, g6, S₁₃⟩ := hJ
              obtain ⟨f1, f2, f3, f4⟩ := filled (v := 2 * (0 + (i : Int) * 1) + 7) I eB hbd w2 w3 w4 hle K J₈.pr J₈.mz J₈.fu J₈.ok
              have hl₁₀ := sub₁₀ _ _ J₈.hl
              have hal := J₈.ar.len
              repeat tb_rel
              refine w_mList (S₁₃.get hl₁₀) PySem.F.slot_list_append PySem.F.type_list_append ?_
              refine w_callB (by intro _ e; cases e) ?_ (by kernel_rfl) (by kernel_rfl)
              repeat tb_rel
              refine w_Tuple ?_
              repeat tb_rel
              refine w_mul (fun _ => ?_) (.of_left (by decide))
              repeat tb_rel
              rename_i tv
              refine ⟨by rw [sizeLine_eq]; simp, fun u hu => ?_⟩
              have S₁₄ := S₁₃.new (ao := .tup [.int (b.a + 8) t9, .ref tk, .int (2 * (0 + (i : Int) * 1) + 7) tv]) hu
              have Ru := S₁₃.fresh hu
              have nu : l ≠ u := fun q => by rw [← q, hl₁₀] at Ru; cases Ru
              have hl₁₄ : upd R₁₀ u (.tup [.int (b.a + 8) t9, .ref tk, .int (2 * (0 + (i : Int) * 1) + 7) tv]) l = some (.list rs) := by rw [upd_ne nu]; exact hl₁₀
              repeat tb_rel
              refine w_append (S₁₄.get hl₁₄) (by rw [sizeLine_eq]; omega) ?_
              have S₁₅ := S₁₄.set (ao := .list (rs ++ [.ref u])) hl₁₄
              have sx : SubX l R₈ (upd (upd R₁₀ u (.tup [.int (b.a + 8) t9, .ref tk, .int (2 * (0 + (i : Int) * 1) + 7) tv])) l (.list (rs ++ [.ref u]))) := sub₁₀.x.trans ((Sub.new Ru).x.trans SubX.upd)
              have hu' : (upd (upd R₁₀ u (.tup [.int (b.a + 8) t9, .ref tk, .int (2 * (0 + (i : Int) * 1) + 7) tv])) l (.list (rs ++ [.ref u]))) u = some (.tup [.int (b.a + 8) t9, .ref tk, .int (2 * (0 + (i : Int) * 1) + 7) tv]) := by rw [upd_ne (Ne.symm nu), upd_self]
              have hl' : (upd (upd R₁₀ u (.tup [.int (b.a + 8) t9, .ref tk, .int (2 * (0 + (i : Int) * 1) + 7) tv])) l (.list (rs ++ [.ref u]))) l = some (.list (rs ++ [.ref u])) := upd_self _ _ _
              have htk' : (upd (upd R₁₀ u (.tup [.int (b.a + 8) t9, .ref tk, .int (2 * (0 + (i : Int) * 1) + 7) tv])) l (.list (rs ++ [.ref u]))) tk = _ := ((Sub.new Ru).tup.trans (TupSub.upd fun xs => by rw [hl₁₄]; intro e; cases e)) _ _ htk₁₀
              generalize (upd (upd R₁₀ u (.tup [.int (b.a + 8) t9, .ref tk, .int (2 * (0 + (i : Int) * 1) + 7) tv])) l (.list (rs ++ [.ref u]))) = R₁₅ at *
              have nlt' : ∀ xs, R₈ l ≠ some (.tup xs) := fun xs => by rw [J₈.hl]; intro e; cases e
              repeat tb_rel
              refine ⟨rfl, g1, g2, l, _, recs ++ [⟨b.a + 8, kd.1, kd.2, 2 * (0 + (i : Int) * 1) + 7⟩], R₁₅, _, _, _, _, g3,
                ⟨S₁₅, f1, ?_, sx.at J₈.hc (Ne.symm J₈.nc), J₈.nh, J₈.nl, J₈.nc, J₈.nk, sx.at J₈.hk (Ne.symm J₈.nk), J₈.al.mono (KindIs.mono (sx.tup nlt')), hl', ?_, ?_, fun r hr => ?_, f3, f2, J₈.ko.low f4⟩, by simp; omega⟩
              · obtain ⟨xs, L, e1, e2, e3⟩ := J₈.hh
                exact ⟨xs, L, sx.at e1 (Ne.symm J₈.nh), ⟨sx.at e2.c (Ne.symm J₈.nl), e2.i, e2.l, e2.h⟩, e3⟩
              · exact (J₈.ar.mono (RcIs.mono (sx.tup nlt'))).snoc ⟨u, t9, .ref tk, tv, rfl, hu', tk, ta, tw, o, rfl, htk'⟩
              · have := K.keys eB hbd J₈.pr
                rw [List.map_append]
                have e : List.map (fun r : Rc => r.r.key) [(⟨b.a + 8, kd.1, kd.2, 2 * (0 + (i : Int) * 1) + 7⟩ : Rc)] = [(b.a, kd.1)] := by simp [Rec.key, Rc.r]
                rw [e]
                exact this
              · rcases mem_snoc.mp hr with hr | rfl
                · exact J₈.km r hr
                · exact ⟨hkm, hv0⟩
    · rintro _ m H ⟨rfl, ga, gk, l, rs, recs, R, M, F, Ls, B, gr, J, hln⟩
      have S := J.s
      repeat tb_rel
      refine w_isNotOp ?_
      repeat tb_rel
      refine w_isValue ?_ (by rfl)
      repeat tb_rel
      refine w_callK (fn_sound hX).k ?_ (by kernel_rfl) (by kernel_rfl)
      repeat tb_rel
      refine w_call (c_sound hX S J.inv J.hl J.ar J.pr J.ok J.fu (by omega) fun H' R' sub' S' => ?_) (by decide)
      repeat tb_rel
      refine if_false ?_
      repeat tb_rel
      exact ⟨ga, gk, l, rs, recs, R', M, F, Ls, B, gr, J.to S' (J.hh.sub sub') sub'.x nc nkl, hln⟩
  · repeat tb_rel
    rfl
end
end
section
theorem fin {w : World} {s₁ : Shared} {mg mb : Loc} {fa l : Addr} {vs : List Value} {ns : List Int} {mean : ExcName → Option Value}
    {cl : Str → Option Addr} (KX : (hd.heap_39 w.params).In s₁.heap) (T : Top hd.view_39 (looseW hd.view_39 []) mean mg mb s₁.heap)
    (hmg : mg (Str.ofString "law") = some (.ref fa)) (hg : s₁.gens = #[]) (hl : s₁.heap.IsList l vs.toArray) (hi : IntsAre vs ns) (hn : ns.length ≤ 63) :
    codeAny (model PySem.Challenge.rw_nu0322_01.row.prog w) callerA (Code.call (.ref fa) { pos := [.ref l] })
      (GoodWG PySem.Challenge.rw_nu0322_01.row.claim cl mean [ofPy (PyData.list (List.map PyData.int ns))] s₁) s₁ := by
  have hX : IsK ⟨PySem.Challenge.rw_nu0322_01.row.prog, w, hd.heap_39 w.params, hd.view_39, looseW hd.view_39 [], mg, mb⟩ := rfl
  have g : Grd ⟨PySem.Challenge.rw_nu0322_01.row.prog, w, hd.heap_39 w.params, hd.view_39, looseW hd.view_39 [], mg, mb⟩ s₁.heap := ⟨KX, topRead_of T⟩
  have e : mg (Str.ofString "law") = some (.ref 243) := mg_of (K := hd.heap_39 w.params) KX T.g rfl
  have ef : fa = 243 := by
    rw [hmg] at e
    exact Value.ref.inj (Option.some.inj e)
  subst ef
  refine codeAny_mono (c_law hX (A := callerA) ⟨rfl, by decide, by decide⟩ g (Keep.refl _) (Nat.le_refl _) hl hi hn) ?_
  rintro r s' ⟨v, H', rfl, sm, kp, _, rfl⟩
  refine GoodW.toG ⟨.inl ⟨.bool true, .bool true, [], rfl, fun _ => rfl, .bool _, (by kernel_rfl), fun _ => ⟨List.nodup_nil, fun _ h => nomatch h⟩⟩, kp, ?_, ?_⟩
  · obtain ⟨h, tk, rfl⟩ := sm; rfl
  · obtain ⟨h, tk, rfl⟩ := sm; exact hg
end
end Mine
set_option maxRecDepth 100000 in
set_option maxHeartbeats 8000000 in
theorem PySem.Challenge.cw_nu0322_01_holds : PySem.Challenge.rw_nu0322_01.Holds := by
  exact Mine.hd (by
    k_fill
    intro w s₀ s₁ mg mb G Y fa o pm cd doc dV kV ho hd hcd hD hmg hg args vals as hpre hlay hrd hwl hlo
    have KX := kIn_of Y
    refine Ground.open G ?_
    intro T B D TE TW
    wrow_args hpre hlay hrd hwl hlo
    all_goals (first | refine callC_kw (enter_call ?_) | refine enter_call ?_)
    exact Mine.fin KX T hmg hg (by assumption) (by assumption) (by omega))
