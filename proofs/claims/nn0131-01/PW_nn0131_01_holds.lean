import PyProof.Rows.All
import Wide.All
import OpenK.AllK
import Wide.FinOn
import PySem.Challenge.RW_nn0131_01
open PySem PySem.W PySem.Calls PyProof.Rows PySem.Spec
set_option Elab.async false
set_option maxRecDepth 100000
set_option linter.all false
set_option compiler.extract_closed false
namespace Mine



abbrev Led := List (Addr × Obj)
abbrev Loc := List (Str × Value)
abbrev PW : Program := PySem.Challenge.pw_nn0131_01

/-- what stays through the whole call -/
structure Wc where
  w : World
  K : Frag
  p : Program
  loose : List Str
  mg : Str → Option Value
  mb : Str → Option Value

/-- a frame -/
structure Fc where
  cn : Str
  cs : Scope
  a : Addr
  cd : Value
  cl : List (Str × Addr)
  L : Addr
  outer : List Env
  A₀ : Around
  base : Heap
  h₀ : Heap

abbrev Fc.env (f : Fc) : Env := envX f.cn f.cs f.L f.a f.cd f.cl

def lk (m : Loc) (y : Str) : Option Value := m.lookup y

def apart (M I : Led) : Prop := (M.map (·.1)).Nodup ∧ ∀ p ∈ M, ∀ q ∈ I, p.1 ≠ q.1

/-- what lies below the frame; slots of the frames further out may have turned -/
structure Bel (c : Wc) (f : Fc) (g : Heap) : Prop where
  below : Below f.A₀ f.base f.outer g
  dicts : KtsDicts (f.outer.filterMap (·.frame)) g
  turn : KtsTurn (f.outer.filterMap (·.frame)) f.h₀ g
  XB : c.K.In f.base
  TB : TopRead c.p c.loose c.mg c.mb f.base
structure Live0 (c : Wc) (f : Fc) (g : Heap) (m : Loc) (M I : Led) (h : Heap) : Prop where
  B : Bel c f g
  F : Fr g f.L h (lk m)
  X : c.K.In g
  N : News g f.L h (M ++ I)
  T : TopRead c.p c.loose c.mg c.mb g
  ap : apart M I
  kd : f.cs.kind = .function
def Live (c : Wc) (f : Fc) (m : Loc) (M I : Led) (h : Heap) : Prop := ∃ g, Live0 c f g m M I h

structure Ar (f : Fc) (A : Around) (r : Nat) : Prop where
  hd : A.handled = none
  fr : A.frames = some (f.env :: f.outer)
  dp : A.depth ≤ 301 + r
  un : A.units ≤ 4 + 5 * r
  rm : r ≤ 100

def stAt (s : Shared) (h : Heap) (tk : Nat) : Shared := { s with heap := h, toks := tk }

/-- a tree that leaves the locals as they are -/
structure Te (c : Wc) (f : Fc) (A : Around) {α : Type} (m : Loc) (M I : Led) (t : Sem α) (Q : α → Led → Led → Prop) (E : Value → Shared → Prop) : Prop where
  run : ∀ s : Shared, Live c f m M I s.heap → wpAny (model PW c.w) A t (fun v s' => ∃ h' tk M' I', s' = { s with heap := h', toks := tk } ∧ Live c f m M' I' h' ∧ Q v M' I') E s
/-- a tree that may store names -/
structure Ts (c : Wc) (f : Fc) (A : Around) {α : Type} (m : Loc) (M I : Led) (t : Sem α) (Q : α → Loc → Led → Led → Prop) (E : Value → Shared → Prop) : Prop where
  run : ∀ s : Shared, Live c f m M I s.heap → wpAny (model PW c.w) A t (fun v s' => ∃ h' tk m' M' I', s' = { s with heap := h', toks := tk } ∧ Live c f m' M' I' h' ∧ Q v m' M' I') E s

/-- one postcondition leads to another, which a proof carries unread -/
def Ends (Q R : Flow → Loc → Led → Led → Prop) : Prop := ∀ fl m M I, Q fl m M I → R fl m M I
def EndsV {α : Type} (Q R : α → Led → Led → Prop) : Prop := ∀ v M I, Q v M I → R v M I
def EndsL (Q R : Led → Led → Prop) : Prop := ∀ M I, Q M I → R M I
theorem Ends.go {Q R : Flow → Loc → Led → Led → Prop} {fl : Flow} {m : Loc} {M I : Led} (h : Ends Q R) (q : Q fl m M I) : R fl m M I := h fl m M I q
theorem EndsV.go {α : Type} {Q R : α → Led → Led → Prop} {v : α} {M I : Led} (h : EndsV Q R) (q : Q v M I) : R v M I := h v M I q
theorem EndsL.go {Q R : Led → Led → Prop} {M I : Led} (h : EndsL Q R) (q : Q M I) : R M I := h M I q
abbrev FF : Value → Shared → Prop := fun _ _ => False
section
variable {c : Wc} {f : Fc} {A : Around} {α β : Type} {m : Loc} {M I : Led} {E : Value → Shared → Prop} {g : Heap}

theorem Te.ts {t : Sem α} {Q : α → Loc → Led → Led → Prop} (h : Te c f A m M I t (fun v M' I' => Q v m M' I') E) : Ts c f A m M I t Q E :=
  .mk fun s L => wpAny_mono (h.run s L) (fun v s' ⟨h', tk, M', I', e, L', q⟩ => ⟨h', tk, m, M', I', e, L', q⟩) fun _ _ e => e

theorem Te.mono {t : Sem α} {Q Q' : α → Led → Led → Prop} (h : Te c f A m M I t Q E) (hq : ∀ v M' I', Q v M' I' → Q' v M' I') : Te c f A m M I t Q' E :=
  .mk fun s L => wpAny_mono (h.run s L) (fun v s' ⟨h', tk, M', I', e, L', q⟩ => ⟨h', tk, M', I', e, L', hq _ _ _ q⟩) fun _ _ e => e
theorem Ts.mono {t : Sem α} {Q Q' : α → Loc → Led → Led → Prop} (h : Ts c f A m M I t Q E) (hq : ∀ v m' M' I', Q v m' M' I' → Q' v m' M' I') : Ts c f A m M I t Q' E :=
  .mk fun s L => wpAny_mono (h.run s L) (fun v s' ⟨h', tk, m', M', I', e, L', q⟩ => ⟨h', tk, m', M', I', e, L', hq _ _ _ _ q⟩) fun _ _ e => e

theorem Te.pure {v : α} {Q : α → Led → Led → Prop} (h : Q v M I) : Te c f A m M I (Pure.pure v) Q E :=
  .mk fun s L => wpAny_pure ⟨s.heap, s.toks, M, I, rfl, L, h⟩
theorem Ts.pure {v : α} {Q : α → Loc → Led → Led → Prop} (h : Q v m M I) : Ts c f A m M I (Pure.pure v) Q E :=
  .mk fun s L => wpAny_pure ⟨s.heap, s.toks, m, M, I, rfl, L, h⟩

/-- go on behind a tree -/
theorem Te.step {t : Sem α} {Q : α → Led → Led → Prop} {s : Shared} {R : α → Shared → Prop} (h : Te c f A m M I t Q E) (L : Live c f m M I s.heap)
    (k : ∀ v h' tk M' I', Live c f m M' I' h' → Q v M' I' → R v { s with heap := h', toks := tk }) : wpAny (model PW c.w) A t R E s :=
  wpAny_mono (h.run s L) (fun v s' ⟨h', tk, M', I', e, L', q⟩ => e ▸ k v h' tk M' I' L' q) fun _ _ e => e
theorem Ts.step {t : Sem α} {Q : α → Loc → Led → Led → Prop} {s : Shared} {R : α → Shared → Prop} (h : Ts c f A m M I t Q E) (L : Live c f m M I s.heap)
    (k : ∀ v h' tk m' M' I', Live c f m' M' I' h' → Q v m' M' I' → R v { s with heap := h', toks := tk }) : wpAny (model PW c.w) A t R E s :=
  wpAny_mono (h.run s L) (fun v s' ⟨h', tk, m', M', I', e, L', q⟩ => e ▸ k v h' tk m' M' I' L' q) fun _ _ e => e

theorem Te.bind {t : Sem α} {k : α → Sem β} {Q : β → Led → Led → Prop} (h : Te c f A m M I t (fun v M' I' => Te c f A m M' I' (k v) Q E) E) : Te c f A m M I (t >>= k) Q E :=
  .mk fun s L => wpAny_bind (h.step L fun v h' tk M' I' L' q => q.run { s with heap := h', toks := tk } L')
theorem Ts.bind {t : Sem α} {k : α → Sem β} {Q : β → Loc → Led → Led → Prop} (h : Ts c f A m M I t (fun v m' M' I' => Ts c f A m' M' I' (k v) Q E) E) : Ts c f A m M I (t >>= k) Q E :=
  .mk fun s L => wpAny_bind (h.step L fun v h' tk m' M' I' L' q => q.run { s with heap := h', toks := tk } L')

/-- the post condition of a step, from a state further on -/
theorem Live.wrap {s : Shared} {h : Heap} {tk : Nat} {t : Sem α} {Q : α → Led → Led → Prop} {m' : Loc} {M' I' : Led} (h1 : Te c f A m M' I' t Q E) (L : Live c f m M' I' h) :
    wpAny (model PW c.w) A t (fun v s' => ∃ h' tk M' I', s' = { s with heap := h', toks := tk } ∧ Live c f m M' I' h' ∧ Q v M' I') E { s with heap := h, toks := tk } :=
  h1.run { s with heap := h, toks := tk } L

theorem Live0.keep {h h' : Heap} (L : Live0 c f g m M I h) (k : ∀ b o, h.get? b = some o → h'.get? b = some o) : Live0 c f g m M I h' :=
  ⟨L.B, ⟨L.F.ns.keeps k, fun b o e => k b o (L.F.keep b o e), L.F.above⟩, L.X, fun p hp => ⟨k _ _ (L.N p hp).1, (L.N p hp).2⟩, L.T, L.ap, L.kd⟩
theorem Live0.Xh {h : Heap} (L : Live0 c f g m M I h) : c.K.In h := L.X.keeps L.F.keep
theorem Live0.gI {h : Heap} (L : Live0 c f g m M I h) {a : Addr} {o : Obj} (e : (a, o) ∈ I) : h.get? a = some o := L.N.get (List.mem_append_right _ e)
theorem Live0.gM {h : Heap} (L : Live0 c f g m M I h) {a : Addr} {o : Obj} (e : (a, o) ∈ M) : h.get? a = some o := L.N.get (List.mem_append_left _ e)

/-- a new object onto the frozen side -/
theorem Live0.push {h : Heap} (L : Live0 c f g m M I h) (o : Obj) (hf : o.isFreed = false := by rfl) : Live0 c f g m M ((h.objs.size, o) :: I) (h.push o) := by
  have N' := L.N.push L.F o hf
  refine ⟨L.B, L.F.push o, L.X, fun p hp => N' p ?_, L.T, ⟨L.ap.1, fun p hp q hq => ?_⟩, L.kd⟩
  · rcases List.mem_append.mp hp with hp | hp
    · exact .tail _ (List.mem_append_left _ hp)
    · rcases List.mem_cons.mp hp with rfl | hp
      · exact .head _
      · exact .tail _ (List.mem_append_right _ hp)
  · rcases List.mem_cons.mp hq with rfl | hq
    · exact Nat.ne_of_lt (Heap.lt_size (L.gM hp))
    · exact L.ap.2 p hp q hq
/-- a new object onto the side that turns -/
theorem Live0.pushM {h : Heap} (L : Live0 c f g m M I h) (o : Obj) (hf : o.isFreed = false := by rfl) : Live0 c f g m ((h.objs.size, o) :: M) I (h.push o) := by
  have N' := L.N.push L.F o hf
  refine ⟨L.B, L.F.push o, L.X, N', L.T, ⟨?_, fun p hp q hq => ?_⟩, L.kd⟩
  · rw [List.map_cons, List.nodup_cons]
    refine ⟨fun hm => ?_, L.ap.1⟩
    obtain ⟨p, hp, e⟩ := List.mem_map.mp hm
    exact absurd (Heap.lt_size (L.gM hp)) (by rw [e]; exact Nat.lt_irrefl _)
  · rcases List.mem_cons.mp hp with rfl | hp
    · exact Nat.ne_of_gt (Heap.lt_size (L.gI hq))
    · exact L.ap.2 p hp q hq

/-- one entry turned -/
inductive Up (d : Addr) (o o' : Obj) : Led → Led → Prop
  | head {r : Led} : Up d o o' ((d, o) :: r) ((d, o') :: r)
  | tail {p : Addr × Obj} {r r' : Led} : Up d o o' r r' → Up d o o' (p :: r) (p :: r')
theorem Up.mem {d : Addr} {o o' : Obj} : ∀ {l l' : Led}, Up d o o' l l' → (d, o) ∈ l
  | _, _, .head => .head _
  | _, _, .tail u => .tail _ u.mem
theorem Up.keys {d : Addr} {o o' : Obj} : ∀ {l l' : Led}, Up d o o' l l' → l'.map (·.1) = l.map (·.1)
  | _, _, .head => rfl
  | _, _, .tail u => by rw [List.map_cons, List.map_cons, u.keys]
theorem Up.cases {d : Addr} {o o' : Obj} : ∀ {l l' : Led}, Up d o o' l l' → (l.map (·.1)).Nodup → ∀ p ∈ l', p = (d, o') ∨ (p ∈ l ∧ p.1 ≠ d)
  | _, _, .head (r := r), hn, p, hp => by
    rw [List.map_cons, List.nodup_cons] at hn
    rcases List.mem_cons.mp hp with rfl | hp
    · exact .inl rfl
    · exact .inr ⟨.tail _ hp, fun e => hn.1 (e ▸ List.mem_map_of_mem (f := (·.1)) hp)⟩
  | _, _, .tail (p := q) u, hn, p, hp => by
    rw [List.map_cons, List.nodup_cons] at hn
    rcases List.mem_cons.mp hp with rfl | hp
    · exact .inr ⟨.head _, fun e => hn.1 (e ▸ List.mem_map_of_mem u.mem)⟩
    · rcases u.cases hn.2 p hp with e | ⟨h1, h2⟩
      · exact .inl e
      · exact .inr ⟨.tail _ h1, h2⟩
theorem Live0.up {h h' : Heap} {d : Addr} {o o' : Obj} {M' : Led} (L : Live0 c f g m M I h) (U : Up d o o' M M') (hs : Heap.SameBut d h h') (ho : h'.get? d = some o') : Live0 c f g m M' I h' := by
  have hd := L.N _ (List.mem_append_left _ U.mem)
  have F' : Fr g f.L h' (lk m) := ⟨L.F.ns.sameBut hs (Ne.symm hd.2.1), fun b ob e => (hs.2 b (fun q => by rw [q, hd.2.2] at e; cases e)).trans (L.F.keep b ob e), L.F.above⟩
  refine ⟨L.B, F', L.X, fun p hp => ?_, L.T, ⟨U.keys ▸ L.ap.1, fun p hp q hq => ?_⟩, L.kd⟩
  · rcases List.mem_append.mp hp with hp | hp
    · rcases U.cases L.ap.1 p hp with rfl | ⟨h1, h2⟩
      · exact ⟨ho, hd.2⟩
      · have := L.N p (List.mem_append_left _ h1)
        exact ⟨(hs.2 p.1 h2).trans this.1, this.2⟩
    · have := L.N p (List.mem_append_right _ hp)
      exact ⟨(hs.2 p.1 (Ne.symm (L.ap.2 _ U.mem p hp))).trans this.1, this.2⟩
  · rcases U.cases L.ap.1 p hp with rfl | ⟨h1, h2⟩
    · exact L.ap.2 _ U.mem q hq
    · exact L.ap.2 p h1 q hq

/-- one entry taken out -/
inductive Del (d : Addr) (o : Obj) : Led → Led → Prop
  | head {r : Led} : Del d o ((d, o) :: r) r
  | tail {p : Addr × Obj} {r r' : Led} : Del d o r r' → Del d o (p :: r) (p :: r')
theorem Del.mem {d : Addr} {o : Obj} : ∀ {l l' : Led}, Del d o l l' → (d, o) ∈ l
  | _, _, .head => .head _
  | _, _, .tail u => .tail _ u.mem
theorem Del.sub {d : Addr} {o : Obj} : ∀ {l l' : Led}, Del d o l l' → ∀ p ∈ l', p ∈ l
  | _, _, .head, _, hp => .tail _ hp
  | _, _, .tail u, p, hp => by
    rcases List.mem_cons.mp hp with rfl | hp
    · exact .head _
    · exact .tail _ (u.sub p hp)
theorem Del.nodup {d : Addr} {o : Obj} : ∀ {l l' : Led}, Del d o l l' → (l.map (·.1)).Nodup → (l'.map (·.1)).Nodup ∧ ∀ p ∈ l', p.1 ≠ d
  | _, _, .head, hn => by
    rw [List.map_cons, List.nodup_cons] at hn
    exact ⟨hn.2, fun p hp e => hn.1 (e ▸ List.mem_map_of_mem (f := (·.1)) hp)⟩
  | _, _, .tail (p := q) u, hn => by
    rw [List.map_cons, List.nodup_cons] at hn
    obtain ⟨h1, h2⟩ := u.nodup hn.2
    refine ⟨?_, fun p hp => ?_⟩
    · rw [List.map_cons, List.nodup_cons]
      refine ⟨fun hm => hn.1 ?_, h1⟩
      obtain ⟨p, hp, e⟩ := List.mem_map.mp hm
      exact e ▸ List.mem_map_of_mem (u.sub p hp)
    · rcases List.mem_cons.mp hp with rfl | hp
      · exact fun e => hn.1 (e ▸ List.mem_map_of_mem u.mem)
      · exact h2 p hp
theorem Live0.freeze {h : Heap} {d : Addr} {o : Obj} {M' : Led} (L : Live0 c f g m M I h) (D : Del d o M M') : Live0 c f g m M' ((d, o) :: I) h := by
  obtain ⟨h1, h2⟩ := D.nodup L.ap.1
  refine ⟨L.B, L.F, L.X, fun p hp => L.N p ?_, L.T, ⟨h1, fun p hp q hq => ?_⟩, L.kd⟩
  · rcases List.mem_append.mp hp with hp | hp
    · exact List.mem_append_left _ (D.sub p hp)
    · rcases List.mem_cons.mp hp with rfl | hp
      · exact List.mem_append_left _ D.mem
      · exact List.mem_append_right _ hp
  · rcases List.mem_cons.mp hq with rfl | hq
    · exact h2 p hp
    · exact L.ap.2 p (D.sub p hp) q hq
theorem Live.keep {h h' : Heap} (L : Live c f m M I h) (k : ∀ b o, h.get? b = some o → h'.get? b = some o) : Live c f m M I h' := let ⟨g, L⟩ := L; ⟨g, L.keep k⟩
theorem Live.Xh {h : Heap} (L : Live c f m M I h) : c.K.In h := let ⟨g, L⟩ := L; L.Xh
theorem Live.gI {h : Heap} (L : Live c f m M I h) {a : Addr} {o : Obj} (e : (a, o) ∈ I) : h.get? a = some o := let ⟨g, L⟩ := L; L.gI e
theorem Live.gM {h : Heap} (L : Live c f m M I h) {a : Addr} {o : Obj} (e : (a, o) ∈ M) : h.get? a = some o := let ⟨g, L⟩ := L; L.gM e
theorem Live.push {h : Heap} (L : Live c f m M I h) (o : Obj) (hf : o.isFreed = false := by rfl) : Live c f m M ((h.objs.size, o) :: I) (h.push o) := let ⟨g, L⟩ := L; ⟨g, L.push o hf⟩
theorem Live.pushM {h : Heap} (L : Live c f m M I h) (o : Obj) (hf : o.isFreed = false := by rfl) : Live c f m ((h.objs.size, o) :: M) I (h.push o) := let ⟨g, L⟩ := L; ⟨g, L.pushM o hf⟩
theorem Live.up {h h' : Heap} {d : Addr} {o o' : Obj} {M' : Led} (L : Live c f m M I h) (U : Up d o o' M M') (hs : Heap.SameBut d h h') (ho : h'.get? d = some o') : Live c f m M' I h' := let ⟨g, L⟩ := L; ⟨g, L.up U hs ho⟩
theorem Live.freeze {h : Heap} {d : Addr} {o : Obj} {M' : Led} (L : Live c f m M I h) (D : Del d o M M') : Live c f m M' ((d, o) :: I) h := let ⟨g, L⟩ := L; ⟨g, L.freeze D⟩
theorem Live.ap {h : Heap} (L : Live c f m M I h) : apart M I := let ⟨g, L⟩ := L; L.ap
theorem Live.kd {h : Heap} (L : Live c f m M I h) : f.cs.kind = .function := let ⟨g, L⟩ := L; L.kd
theorem Live.nolimit {h : Heap} (L : Live c f m M I h) : h.NoLimit := let ⟨g, L⟩ := L; L.T.nolimit.keeps L.F.keep
theorem Te.freeze {t : Sem α} {Q : α → Led → Led → Prop} {d : Addr} {o : Obj} {M' : Led} (D : Del d o M M') (h : Te c f A m M' ((d, o) :: I) t Q E) : Te c f A m M I t Q E :=
  .mk fun s L => h.run s (L.freeze D)
theorem Ts.freeze {t : Sem α} {Q : α → Loc → Led → Led → Prop} {d : Addr} {o : Obj} {M' : Led} (D : Del d o M M') (h : Ts c f A m M' ((d, o) :: I) t Q E) : Ts c f A m M I t Q E :=
  .mk fun s L => h.run s (L.freeze D)
end



/-! what a step's value goes on to; named, so that a proof states it once -/
section
variable (c : Wc) (f : Fc) (A : Around) (m : Loc) (E : Value → Shared → Prop)
noncomputable abbrev kE (e : Expr) (env : Env) (K : Value → Value → Led → Led → Prop) : Value → Led → Led → Prop := fun a M I => Te c f A m M I (eval e env) (K a) E
noncomputable abbrev kBin (op : Operator) (Q : Value → Led → Led → Prop) : Value → Value → Led → Led → Prop := fun a b M I => Te c f A m M I (binaryOp op a b) Q E
noncomputable abbrev kCmp (op : CmpOp) (Q : Value → Led → Led → Prop) : Value → Value → Led → Led → Prop := fun a b M I => Te c f A m M I (compareOp op a b) Q E
noncomputable abbrev kTr (Q : Bool → Led → Led → Prop) : Value → Led → Led → Prop := fun v M I => Te c f A m M I (truthy v) Q E
noncomputable abbrev kNot (Q : Bool → Led → Led → Prop) : Bool → Led → Led → Prop := fun b M I => Q (!b) M I
noncomputable abbrev kUn (op : UnaryOp) (Q : Value → Led → Led → Prop) : Value → Led → Led → Prop := fun v M I => Te c f A m M I (unaryOp op v) Q E
noncomputable abbrev kIfE (body orelse : Expr) (env : Env) (Q : Value → Led → Led → Prop) : Bool → Led → Led → Prop := fun b M I => if b = true then Te c f A m M I (eval body env) Q E else Te c f A m M I (eval orelse env) Q E
noncomputable abbrev kTAnd (t : Sem Bool) (Q : Bool → Led → Led → Prop) : Bool → Led → Led → Prop := fun b M I => if b = true then Te c f A m M I t Q E else Q false M I
noncomputable abbrev kTOr (t : Sem Bool) (Q : Bool → Led → Led → Prop) : Bool → Led → Led → Prop := fun b M I => if b = true then Q true M I else Te c f A m M I t Q E
noncomputable abbrev kAnd2 (e : Expr) (env : Env) (Q : Value → Led → Led → Prop) (v : Value) : Bool → Led → Led → Prop := fun b M I => if b = true then Te c f A m M I (eval e env) Q E else Q v M I
noncomputable abbrev kAnd (e : Expr) (env : Env) (Q : Value → Led → Led → Prop) : Value → Led → Led → Prop := fun v M I => Te c f A m M I (truthy v) (kAnd2 c f A m E e env Q v) E
noncomputable abbrev kAttr (attr : Str) (Q : Value → Led → Led → Prop) : Value → Led → Led → Prop := fun o M I => Te c f A m M I (getAttr o attr true) Q E
noncomputable abbrev kSub (value slice : Expr) (Q : Value → Led → Led → Prop) : Value → Value → Led → Led → Prop := fun o i M I => Te c f A m M I (subscriptTail value slice o i) Q E
noncomputable abbrev kPush (Q : List Value → Led → Led → Prop) (v : Value) : List Value → Led → Led → Prop := fun vs M I => Q (v :: vs) M I
noncomputable abbrev kArgs (pos : Pos) (rest : List Expr) (env : Env) (Q : List Value → Led → Led → Prop) : Value → Led → Led → Prop := fun v M I => Te c f A m M I (spliced (backTo pos (starEach rest env))) (kPush Q v) E
noncomputable abbrev kCw (pos : Pos) (args : List Expr) (env : Env) (Q : Value → Led → Led → Prop) : Value → Led → Led → Prop := fun g M I => Te c f A m M I (callWith pos g [] (backTo pos (starEach args env)) []) Q E
noncomputable abbrev kCwX (pos : Pos) (args : List Expr) (env : Env) (Q : Value → Led → Led → Prop) : Value × List Value → Led → Led → Prop := fun fx M I => Te c f A m M I (callWith pos fx.1 fx.2 (backTo pos (starEach args env)) []) Q E
noncomputable abbrev kMeth (name : Str) (pl : Sem Bool) (pos : Pos) (args : List Expr) (env : Env) (Q : Value → Led → Led → Prop) : Value → Led → Led → Prop := fun ov M I => Te c f A m M I (getMethod ov name pl) (kCwX c f A m E pos args env Q) E
noncomputable abbrev kCall (g : Value) (first : List Value) (Q : Value → Led → Led → Prop) : List Value → Led → Led → Prop := fun vs M I => Te c f A m M I (call g (first ++ vs)) Q E
noncomputable abbrev kCall0 (g : Value) (Q : Value → Led → Led → Prop) : List Value → Led → Led → Prop := fun vs M I => Te c f A m M I (call g vs) Q E
noncomputable abbrev kCall1 (g x : Value) (Q : Value → Led → Led → Prop) : List Value → Led → Led → Prop := fun vs M I => Te c f A m M I (call g (x :: vs)) Q E
noncomputable abbrev kList (Q : Value → Led → Led → Prop) : List Value → Led → Led → Prop := fun vs M I => Te c f A m M I (newList vs) Q E
noncomputable abbrev kTup (Q : Value → Led → Led → Prop) : List Value → Led → Led → Prop := fun vs M I => Te c f A m M I (newTuple vs) Q E
noncomputable abbrev kIt (K : Value → Led → Led → Prop) : Value → Led → Led → Prop := fun x M I => Te c f A m M I (pyIter x) K E
noncomputable abbrev kNx {α : Type} (Q : Flow → Loc → Led → Led → Prop) : α → Led → Led → Prop := fun _ M I => Q .next m M I
noncomputable abbrev kRet (Q : Flow → Loc → Led → Led → Prop) : Value → Led → Led → Prop := fun v M I => Q (.ret v) m M I
noncomputable abbrev kPut (x : Str) (Q : Flow → Loc → Led → Led → Prop) : Value → Led → Led → Prop := fun v M I => Q .next ((x, v) :: m) M I
noncomputable abbrev kIfS (body orelse : List Stmt) (Q : Flow → Loc → Led → Led → Prop) : Bool → Led → Led → Prop := fun b M I => if b = true then Ts c f A m M I (execs body f.env) Q E else Ts c f A m M I (execs orelse f.env) Q E
noncomputable abbrev kNxS (Q : Flow → Loc → Led → Led → Prop) : Unit → Loc → Led → Led → Prop := fun _ m M I => Q .next m M I
noncomputable abbrev kSto (x : Str) (Q : Flow → Loc → Led → Led → Prop) : Value → Led → Led → Prop := fun v M I => Ts c f A m M I (storeName f.env x v) (kNxS Q) E
noncomputable abbrev kAsT (t : Expr) (Q : Flow → Loc → Led → Led → Prop) : Value → Led → Led → Prop := fun v M I => Ts c f A m M I (assign t f.env v) (kNxS Q) E
noncomputable abbrev kUnp (ts : List (Value → Sem Unit)) (xs : List Value) (Q : Unit → Loc → Led → Led → Prop) : Unit → Loc → Led → Led → Prop := fun _ m M I => Ts c f A m M I (assignInOrder ts xs) Q E
noncomputable abbrev kAs2 (t : Expr) (env : Env) (v : Value) (Q : Unit → Loc → Led → Led → Prop) : Unit → Loc → Led → Led → Prop := fun _ m M I => Ts c f A m M I (assign t env v) Q E
noncomputable abbrev kSetA (attr : Str) (Q : Flow → Loc → Led → Led → Prop) : Value → Value → Led → Led → Prop := fun v ov M I => Te c f A m M I (setAttr ov attr v) (kNx m Q) E
noncomputable abbrev kSetI (Q : Flow → Loc → Led → Led → Prop) (v ov : Value) : Value → Led → Led → Prop := fun iv M I => Te c f A m M I (setItem ov iv v) (kNx m Q) E
noncomputable abbrev kSetS (i : Expr) (Q : Flow → Loc → Led → Led → Prop) : Value → Value → Led → Led → Prop := fun v ov M I => Te c f A m M I (eval i f.env) (kSetI c f A m E Q v ov) E
noncomputable abbrev kPushP (Q : List (Value × Value) → Led → Led → Prop) (p : Value × Value) : List (Value × Value) → Led → Led → Prop := fun r M I => Q (p :: r) M I
noncomputable abbrev kPairs (pos : Pos) (ks : List (Option Expr)) (vs : List Expr) (env : Env) (Q : List (Value × Value) → Led → Led → Prop) : Value → Value → Led → Led → Prop := fun kv vv M I => Te c f A m M I (evalPairs (pairTrees ks vs env pos)) (kPushP Q (kv, vv)) E
noncomputable abbrev kBody (body : List Stmt) (R : Flow → Loc → Led → Led → Prop) : Unit → Loc → Led → Led → Prop := fun _ m M I => Ts c f A m M I (execs body f.env) R E
end

section
variable {c : Wc} {f : Fc} {A : Around} {α β : Type} {m : Loc} {M I : Led} {E : Value → Shared → Prop}

/-- a rule that neither makes nor turns anything -/
theorem Te.here {t : Sem α} {Q : α → Led → Led → Prop} {v : α} (h : ∀ {g : Heap} (s : Shared) (R : α → Shared → Prop), Live0 c f g m M I s.heap → (∀ tk, R v { s with toks := tk }) → wpAny (model PW c.w) A t R E s) (hq : Q v M I) : Te c f A m M I t Q E :=
  .mk fun s ⟨g, L⟩ => h s _ L fun tk => ⟨s.heap, tk, M, I, rfl, ⟨g, L⟩, hq⟩

inductive Look (x : Str) (v : Value) : Loc → Prop
  | here {l : Loc} : Look x v ((x, v) :: l)
  | there {y : Str} {w : Value} {l : Loc} : (y == x) = false → Look x v l → Look x v ((y, w) :: l)
theorem Look.get {x : Str} {v : Value} : ∀ {m : Loc}, Look x v m → lk m x = some v
  | _, .here => by simp [lk]
  | _, .there (y := y) h r => by
    have h' : (x == y) = false := by
      rw [beq_eq_false_iff_ne] at h ⊢
      exact fun e => h e.symm
    unfold lk
    rw [List.lookup_cons, h']
    exact r.get

theorem e_local {x : Str} {pos : Pos} {v : Value} {Q : Value → Led → Led → Prop} (hv : Look x v m) (hx : f.env.kindOf x = some .local) (hd : (x == ("__debug__" : Str)) = false) (h : Q v M I) :
    Te c f A m M I (eval (.Name x pos) f.env) Q E :=
  Te.here (v := v) (fun s R L r => nameX_L L.F hv.get (r s.toks) L.kd hx hd) h
theorem e_cell {x : Str} {pos : Pos} {v : Value} {a : Addr} {o : Obj} {Q : Value → Led → Led → Prop} (hc : f.cl.lookup x = some a) (hm : (a, o) ∈ I) (hd : o.data = .cell (some v)) (hx : f.env.kindOf x = some .cell)
    (hb : (x == ("__debug__" : Str)) = false) (h : Q v M I) : Te c f A m M I (eval (.Name x pos) f.env) Q E :=
  Te.here (v := v) (fun s R L r => nameX_C L.N hc (List.mem_append_right _ hm) hd (r s.toks) L.kd hx hb) h
theorem e_global {x : Str} {pos : Pos} {v : Value} {env : Env} {Q : Value → Led → Led → Prop} (e : nsIn c.K mainGlobals x = some (some v)) (hg : env.globals = mainGlobals) (hk : env.scope.kind = .function) (hx : env.kindOf x = some .globalImplicit) (hd : (x == ("__debug__" : Str)) = false) (h : Q v M I) :
    Te c f A m M I (eval (.Name x pos) env) Q E :=
  Te.here (v := v) (fun s R L r => Name_function_global hk hx (loadGlobal_global (env := env) (by rw [hg]; exact L.T.g.keeps L.F.keep) (mg_of L.X L.T.g e) (r s.toks)) hd) h
theorem e_builtin {x : Str} {pos : Pos} {v : Value} {env : Env} {Q : Value → Led → Led → Prop} (e : nsIn c.K mainGlobals x = some none) (hv : bootBuiltins x = some v) (hn : x ≠ "__name__") (hg : env.globals = mainGlobals) (hb : env.builtins = builtinsNs) (hk : env.scope.kind = .function)
    (hx : env.kindOf x = some .globalImplicit) (hd : (x == ("__debug__" : Str)) = false) (h : Q v M I) :
    Te c f A m M I (eval (.Name x pos) env) Q E :=
  Te.here (v := v) (fun s R L r => Name_function_global hk hx (loadGlobal_builtin (env := env) (by rw [hg]; exact L.T.g.keeps L.F.keep) (mg_none_of L.X L.T.g e) (by rw [hb]; exact L.T.b.keeps L.F.keep) ((L.T.builtins x hn).trans hv) (r s.toks)) hd) h

variable {env : Env}
theorem e_int {i k pos} {Q : Value → Led → Led → Prop} (h : ∀ tk, Q (.int i tk) M I) : Te c f A m M I (eval (.Constant (.int i) k pos) env) Q E :=
  .mk fun s L => wpAny_Constant_int ⟨s.heap, _, M, I, rfl, L, h _⟩
theorem e_str {x k pos} {Q : Value → Led → Led → Prop} (h : ∀ tk, Q (.str x tk) M I) : Te c f A m M I (eval (.Constant (.str x) k pos) env) Q E :=
  .mk fun s L => wpAny_Constant_str ⟨s.heap, _, M, I, rfl, L, h _⟩
theorem e_bytes {x : List UInt8} {k pos} {Q : Value → Led → Led → Prop} (h : ∀ tk, Q (.bytes x.toArray tk) M I) : Te c f A m M I (eval (.Constant (.bytes x) k pos) env) Q E :=
  .mk fun s L _ _ _ => ⟨s.heap, _, M, I, rfl, L, h _⟩
theorem e_none {k pos} {Q : Value → Led → Led → Prop} (h : Q .none M I) : Te c f A m M I (eval (.Constant .none k pos) env) Q E :=
  .mk fun s L => wpAny_Constant_none ⟨s.heap, _, M, I, rfl, L, h⟩
theorem e_bool {b k pos} {Q : Value → Led → Led → Prop} (h : Q (.bool b) M I) : Te c f A m M I (eval (.Constant (.bool b) k pos) env) Q E :=
  .mk fun s L => wpAny_Constant_bool ⟨s.heap, _, M, I, rfl, L, h⟩

theorem e_binop {l op r pos} {Q : Value → Led → Led → Prop} (h : Te c f A m M I (eval l env) (kE c f A m E r env (kBin c f A m E op Q)) E) :
    Te c f A m M I (eval (.BinOp l op r pos) env) Q E :=
  .mk fun s L => wpAny_BinOp (h.step L fun a h1 t1 M1 I1 L1 q => Te.step (s := { s with heap := h1, toks := t1 }) q L1 fun b h2 t2 M2 I2 L2 q => q.run { s with heap := h2, toks := t2 } L2)
theorem e_compare {l op r pos} {Q : Value → Led → Led → Prop} (h : Te c f A m M I (eval l env) (kE c f A m E r env (kCmp c f A m E op Q)) E)
    (hm : behindInMarks op r = false) : Te c f A m M I (eval (.Compare l [op] [r] pos) env) Q E :=
  .mk fun s L => wpAny_Compare1 (h.step L fun a h1 t1 M1 I1 L1 q => Te.step (s := { s with heap := h1, toks := t1 }) q L1 fun b h2 t2 M2 I2 L2 q => q.run { s with heap := h2, toks := t2 } L2) hm
theorem t_compare {l op r pos whole} {Q : Bool → Led → Led → Prop} (h : Te c f A m M I (eval l env) (kE c f A m E r env (kCmp c f A m E op (kTr c f A m E Q))) E)
    (hm : behindInMarks op r = false) : Te c f A m M I (isTrue (.Compare l [op] [r] pos) env whole) Q E :=
  .mk fun s L => wpAny_isTrue_Compare1 (h.step L fun a h1 t1 M1 I1 L1 q => Te.step (s := { s with heap := h1, toks := t1 }) q L1 fun b h2 t2 M2 I2 L2 q => Te.step (s := { s with heap := h2, toks := t2 }) q L2 fun v h3 t3 M3 I3 L3 q => q.run { s with heap := h3, toks := t3 } L3) hm
theorem t_not {x pos whole} {Q : Bool → Led → Led → Prop} (h : Te c f A m M I (isTrue x env (eval x env)) (kNot Q) E) : Te c f A m M I (isTrue (.UnaryOp .Not x pos) env whole) Q E :=
  .mk fun s L => isTrue_not (h.step L fun b h1 t1 M1 I1 L1 q => ⟨h1, t1, M1, I1, rfl, L1, q⟩)
theorem t_and_nil {pos whole} {Q : Bool → Led → Led → Prop} (h : Q true M I) : Te c f A m M I (isTrue (.BoolOp .And [] pos) env whole) Q E := .mk fun s L => isTrue_and_nil ⟨s.heap, s.toks, M, I, rfl, L, h⟩
theorem t_or_nil {pos whole} {Q : Bool → Led → Led → Prop} (h : Q false M I) : Te c f A m M I (isTrue (.BoolOp .Or [] pos) env whole) Q E := .mk fun s L => isTrue_or_nil ⟨s.heap, s.toks, M, I, rfl, L, h⟩
theorem t_and {x rest pos whole} {Q : Bool → Led → Led → Prop} (h : Te c f A m M I (isTrue x env (eval x env)) (kTAnd c f A m E (isTrue (.BoolOp .And rest pos) env whole) Q) E) :
    Te c f A m M I (isTrue (.BoolOp .And (x :: rest) pos) env whole) Q E :=
  .mk fun s L => isTrue_and (h.step L fun b h1 t1 M1 I1 L1 q => by cases b; exact ⟨h1, t1, M1, I1, rfl, L1, q⟩; exact q.run { s with heap := h1, toks := t1 } L1)
theorem t_or {x rest pos whole} {Q : Bool → Led → Led → Prop} (h : Te c f A m M I (isTrue x env (eval x env)) (kTOr c f A m E (isTrue (.BoolOp .Or rest pos) env whole) Q) E) :
    Te c f A m M I (isTrue (.BoolOp .Or (x :: rest) pos) env whole) Q E :=
  .mk fun s L => isTrue_or (h.step L fun b h1 t1 M1 I1 L1 q => by cases b; exact q.run { s with heap := h1, toks := t1 } L1; exact ⟨h1, t1, M1, I1, rfl, L1, q⟩)
theorem t_plain {e : Expr} {whole : Sem Value} {Q : Bool → Led → Led → Prop} (h : Te c f A m M I whole (kTr c f A m E Q) E)
    (he : isTrue e env whole = (do let v ← whole; standAt e.pos; holding [v] (truthy v)) := by rfl) : Te c f A m M I (isTrue e env whole) Q E :=
  .mk fun s L => isTrue_plain (h.step L fun v h1 t1 M1 I1 L1 q => q.run { s with heap := h1, toks := t1 } L1) he
theorem e_unary {op x pos} {Q : Value → Led → Led → Prop} (h : Te c f A m M I (eval x env) (kUn c f A m E op Q) E) : Te c f A m M I (eval (.UnaryOp op x pos) env) Q E :=
  .mk fun s L => UnaryOp_ (h.step L fun v h1 t1 M1 I1 L1 q => q.run { s with heap := h1, toks := t1 } L1)
theorem e_ifexp {test body orelse pos} {Q : Value → Led → Led → Prop} (h : Te c f A m M I (isTrue test env (eval test env)) (kIfE c f A m E body orelse env Q) E) :
    Te c f A m M I (eval (.IfExp test body orelse pos) env) Q E :=
  .mk fun s L => IfExp_ (h.step L fun b h1 t1 M1 I1 L1 q => by cases b; exact q.run { s with heap := h1, toks := t1 } L1; exact q.run { s with heap := h1, toks := t1 } L1)
theorem e_and_one {op e pos} {Q : Value → Led → Led → Prop} (h : Te c f A m M I (eval e env) Q E) : Te c f A m M I (eval (.BoolOp op [e] pos) env) Q E := .mk fun s L => BoolOp_one (h.run s L)
theorem e_and {e₁ e₂ rest pos} {Q : Value → Led → Led → Prop} (h : Te c f A m M I (eval e₁ env) (kAnd c f A m E (.BoolOp .And (e₂ :: rest) pos) env Q) E) :
    Te c f A m M I (eval (.BoolOp .And (e₁ :: e₂ :: rest) pos) env) Q E :=
  .mk fun s L => BoolOp_and (h.step L fun v h1 t1 M1 I1 L1 q => Te.step (s := { s with heap := h1, toks := t1 }) q L1 fun b h2 t2 M2 I2 L2 q => by cases b; exact ⟨h2, t2, M2, I2, rfl, L2, q⟩; exact q.run { s with heap := h2, toks := t2 } L2)
theorem e_attr {value : Expr} {attr : Str} {pos : Pos} {Q : Value → Led → Led → Prop} (h : Te c f A m M I (eval value env) (kAttr c f A m E attr Q) E)
    (he : eval (.Attribute value attr pos) env = (do
      let o ← eval value env
      standAt pos.atName
      let r ← holding [o] (getAttr o attr true)
      letTemporaryGo value o r
      pure r) := by with_unfolding_all rfl) : Te c f A m M I (eval (.Attribute value attr pos) env) Q E :=
  .mk fun s L => Attribute_any_ (h.step L fun v h1 t1 M1 I1 L1 q => q.run { s with heap := h1, toks := t1 } L1) he
theorem e_sub {value slice : Expr} {pos : Pos} {Q : Value → Led → Led → Prop} (h : Te c f A m M I (eval value env) (kE c f A m E slice env (kSub c f A m E value slice Q)) E) :
    Te c f A m M I (eval (.Subscript value slice pos) env) Q E :=
  .mk fun s L => Subscript_ (h.step L fun a h1 t1 M1 I1 L1 q => Te.step (s := { s with heap := h1, toks := t1 }) q L1 fun b h2 t2 M2 I2 L2 q => q.run { s with heap := h2, toks := t2 } L2)

/-- the arguments' values, from left to right -/
theorem a_nil {pos : Pos} {Q : List Value → Led → Led → Prop} (h : Q [] M I) : Te c f A m M I (spliced (backTo pos (starEach [] env))) Q E := .mk fun s L => args_nil ⟨s.heap, s.toks, M, I, rfl, L, h⟩
theorem a_cons {e : Expr} {rest : List Expr} {pos : Pos} {Q : List Value → Led → Led → Prop}
    (h : Te c f A m M I (eval e env) (kArgs c f A m E pos rest env Q) E)
    (he : starEach (e :: rest) env = (false, eval e env) :: starEach rest env := by rfl) : Te c f A m M I (spliced (backTo pos (starEach (e :: rest) env))) Q E :=
  .mk fun s L => args_cons (h.step L fun a h1 t1 M1 I1 L1 q => Te.step (s := { s with heap := h1, toks := t1 }) q L1 fun b h2 t2 M2 I2 L2 q => ⟨h2, t2, M2, I2, rfl, L2, q⟩) he

theorem e_call {func : Expr} {args : List Expr} {pos : Pos} {Q : Value → Led → Led → Prop} (h : Te c f A m M I (eval func env) (kCw c f A m E pos args env Q) E)
    (he : eval (.Call func args [] pos) env = (do callWith pos (← eval func env) [] (backTo pos (starEach args env)) (backToKw pos (keywordEach [] env))) := by rfl) :
    Te c f A m M I (eval (.Call func args [] pos) env) Q E :=
  .mk fun s L => Call_ (h.step L fun v h1 t1 M1 I1 L1 q => q.run { s with heap := h1, toks := t1 } L1) he
theorem e_mcall {o : Expr} {name : Str} {apos pos : Pos} {args : List Expr} {pl : Sem Bool} {Q : Value → Led → Led → Prop}
    (h : Te c f A m M I (eval o env) (kMeth c f A m E name pl pos args env Q) E)
    (he : eval (.Call (.Attribute o name apos) args [] pos) env = (do
      let ov ← eval o env
      standAt apos.atName
      let (g, first) ← holding [ov] (getMethod ov name pl)
      callWith pos g first (backTo pos (starEach args env)) []) := by rfl) : Te c f A m M I (eval (.Call (.Attribute o name apos) args [] pos) env) Q E :=
  .mk fun s L => MethodCall_ (h.step L fun v h1 t1 M1 I1 L1 q => Te.step (s := { s with heap := h1, toks := t1 }) q L1 fun b h2 t2 M2 I2 L2 q => q.run { s with heap := h2, toks := t2 } L2) he

/-- a call with one value or more -/
theorem cw_K {g : Value} {first : List Value} {pos : Pos} {e : Expr} {rest : List Expr} {Q : Value → Led → Led → Prop} (hk : keepIn c.K g = true)
    (h : Te c f A m M I (spliced (backTo pos (starEach (e :: rest) env))) (kCall c f A m E g first Q) E)
    (he : starEach (e :: rest) env = (false, eval e env) :: starEach rest env := by rfl) (hp : (backTo pos (starEach rest env)).any (·.1) = false := by rfl) :
    Te c f A m M I (callWith pos g first (backTo pos (starEach (e :: rest) env)) []) Q E :=
  .mk fun s L => callWith_K L.Xh hk (h.step L fun v h1 t1 M1 I1 L1 q => ⟨L1.Xh, q.run { s with heap := h1, toks := t1 } L1⟩) he hp
theorem cw_K0 {g : Value} {first : List Value} {pos : Pos} {Q : Value → Led → Led → Prop} (hk : keepIn c.K g = true) (h : Te c f A m M I (call g (first ++ [])) Q E) :
    Te c f A m M I (callWith pos g first (backTo pos (starEach [] env)) []) Q E := .mk fun s L => callWith_K0 L.Xh hk (h.run s L)
end



/-! a call whose callee may have caught an exception: the frames further out keep all but their slots -/
theorem fr_mem {env : Env} {outer : List Env} {L b : Addr} (hf : env.frame = some L) (hm : b ∈ (env :: outer).filterMap (·.frame)) : b = L ∨ b ∈ outer.filterMap (·.frame) := by
  obtain ⟨e, he, hb⟩ := List.mem_filterMap.mp hm
  rcases List.mem_cons.mp he with rfl | he
  · exact .inl (Option.some.inj (hb.symm.trans hf))
  · exact .inr (List.mem_filterMap.mpr ⟨e, he, hb⟩)
theorem turn_back {A₀ : Around} {base h₀ g g' h : Heap} {outer : List Env} {L L' : Addr} {m m' : Str → Option Value} {env : Env} {news' : List (Addr × Obj)} (B : Below A₀ base outer h₀) (FG : Fr h₀ L g m) (hf : env.frame = some L)
    (T' : KtsTurn ((env :: outer).filterMap (·.frame)) g g') (F' : Fr g' L' h m') (N' : News g' L' h news') :
    ∃ h₀', KtsTurn (outer.filterMap (·.frame)) h₀ h₀' ∧ Below A₀ base outer h₀' ∧ Fr h₀' L h m ∧ News h₀' L h news' := by
  obtain ⟨oL, es, ep, hLg, hLd, hLk, hLf⟩ := FG.ns
  have nL₀ : h₀.get? L = none := kts_self FG
  obtain ⟨sl, hs⟩ := T'.up hLg
  obtain ⟨T₁, S₁⟩ := kts_turn_at (h := h) (fs := outer.filterMap (·.frame)) (g := h₀)
    (fun b hb => let ⟨_, o, ho', _⟩ := B.frames.mem hb; ⟨o, ho'⟩)
    (fun b o e nmem => F'.keep b o (T'.other b o (FG.keep b o e) (fun q => by
      rcases fr_mem hf q with z | z
      · rw [z, nL₀] at e; cases e
      · exact nmem z)))
    (fun b o e hm => let ⟨sl', hs'⟩ := T'.up (FG.keep b o e); ⟨sl', F'.keep _ _ hs'⟩)
  refine ⟨_, T₁, ⟨B.stack, fun b o e => T₁.other b o (B.stays b o e) (fun hm => by rw [(B.frames.mem hm).1] at e; cases e), B.frames.of_keeps fun b o e _ => let ⟨sl', hs'⟩ := T₁.up e; ⟨_, hs', rfl⟩⟩,
    ⟨⟨_, es, ep, F'.keep _ _ hs, hLd, hLk, hLf⟩, S₁, by rw [T₁.size]; exact FG.above⟩, fun p hp => ⟨(N' p hp).1, fun q => ?_, T₁.none_ _ ?_⟩⟩
  · have := (N' p hp).2.2; rw [q, hs] at this; cases this
  · cases q : h₀.get? p.1 with
    | none => rfl
    | some o =>
      obtain ⟨sl', hs'⟩ := T'.up (FG.keep _ _ q)
      have := (N' p hp).2.2
      rw [hs'] at this; cases this
def LeaveT (fs : List Addr) (g : Heap) (P : Value → List (Addr × Obj) → Shared → Prop) (v : Value) (s' : Shared) : Prop := ∃ g' L' m' news', KtsTurn fs g g' ∧ Fr g' L' s'.heap m' ∧ News g' L' s'.heap news' ∧ P v news' s'
section
variable {prog : Program} {w : World} {A₀ A : Around} {s : Shared} {base h₀ : Heap} {outer : List Env} {L : Addr} {m : Str → Option Value} {env : Env} {news : List (Addr × Obj)}
  {R : Result → Shared → Prop} {name qual : Str} {params : Arguments} {body : List Stmt} {scope : Scope} {cl : List (Str × Addr)} {dV kV doc pm cdv ct : Value} {an : Option Addr} {fo : Obj} {f : Addr} {args : Args} {binds : List (Str × Value)}
  {P : Value → List (Addr × Obj) → Shared → Prop}
theorem callT_plain (B : Below A₀ base outer h₀) (D : KtsDicts (outer.filterMap (·.frame)) h₀) (F : Fr h₀ L s.heap m) (N : News h₀ L s.heap news) (hlim : h₀.NoLimit) (hA : A.frames = some (env :: outer)) (hf : env.frame = some L) (hke : env.scope.kind = .function)
    (ho : s.heap.get? f = some fo) (hd : fo.data = .func (fnX name qual params body scope cl dV kV doc pm an cdv ct)) (hcd : s.heap.CodeRec cdv qual) (hroom : A.depth < recursionLimit)
    (hbind : BindsTo s (fnX name qual params body scope cl dV kV doc pm an cdv ct) args binds) (hloc : ∀ y ∈ binds, scope.names.lookup y.1 = some .local)
    (hP : ∀ v news' s' h₀', KtsTurn (outer.filterMap (·.frame)) h₀ h₀' → Below A₀ base outer h₀' → Fr h₀' L s'.heap m → News h₀' L s'.heap news' → P v news' s' → R (.ok (.ret v)) s')
    (h : ∀ g L' h₁, Fr h₀ L g m → Fr g L' h₁ (fun y => binds.reverse.lookup y) → News g L' h₁ news → Below A base (env :: outer) g → KtsDicts ((env :: outer).filterMap (·.frame)) g → h₀.StaysIn g → (∀ p ∈ news, p.1 < L') →
      wpAny (model prog w) (A.deeper (envX qual scope L' f cdv cl)) (execs body (envX qual scope L' f cdv cl))
        (fun fl s' => LeaveT ((env :: outer).filterMap (·.frame)) g P (match fl with | .ret v => v | _ => .none) s')
        (fun e s' => wpAny (model prog w) (A.deeper (envX qual scope L' f cdv cl)) (leaving (envX qual scope L' f cdv cl) e) (fun _ s'' => R (.error e) s'') (fun e' s'' => R (.error e') s'') s')
        { s with heap := h₁, toks := s.toks + binds.length })
    (hcell : ∀ x ∈ scope.names, x.2 ≠ .cell) (hco : scope.isCoroutine = false) (hgen : scope.isGenerator = false) (hk : scope.kind = .function) : codeAny (model prog w) A (.call (.ref f) args) R s := by
  obtain ⟨FG, BG, st, _⟩ := groundX (R := R) B F N hA hf hke
  have DG : KtsDicts ((env :: outer).filterMap (·.frame)) (hideAll s.heap (news.map (·.1))) := fun b hb => by
    rcases fr_mem hf hb with rfl | hb
    · obtain ⟨oL, es, ep, h1, h2, _⟩ := FG.ns; exact ⟨oL, es, ep, h1, h2⟩
    · obtain ⟨o, es, n, h1, h2⟩ := D b hb; exact ⟨o, es, n, st b o h1, h2⟩
  refine codeAny_call_def (fd := fnX name qual params body scope cl dV kV doc pm an cdv ct) (body := body) (binds := binds) hroom ho hd (hlim.keeps F.keep) hcd rfl hbind hcell hloc (fun h₁ hns hk₁ => ?_) hco hgen hk
  refine wpAny_mono (h _ s.heap.objs.size h₁ FG ⟨hns, fun b o e => hk₁ b o (of_hideAll _ e), Nat.le_of_eq (hideAll_size _ _)⟩
    (fun p hp => ⟨hk₁ _ _ (N p hp).1, Nat.ne_of_lt (Heap.lt_size (N p hp).1), hideAll_none _ (List.mem_map_of_mem hp)⟩) BG DG st (fun p hp => Heap.lt_size (N p hp).1)) (fun fl s' hl => ?_) fun _ _ y => y
  obtain ⟨g', L', m', news', T', F', N', p⟩ := hl
  obtain ⟨h₀', t1, t2, t3, t4⟩ := turn_back B FG hf T' F' N'
  exact hP _ _ _ h₀' t1 t2 t3 t4 p
theorem callT_cells (B : Below A₀ base outer h₀) (D : KtsDicts (outer.filterMap (·.frame)) h₀) (F : Fr h₀ L s.heap m) (N : News h₀ L s.heap news) (hlim : h₀.NoLimit) (hA : A.frames = some (env :: outer)) (hf : env.frame = some L) (hke : env.scope.kind = .function)
    (ho : s.heap.get? f = some fo) (hd : fo.data = .func (fnX name qual params body scope [] dV kV doc pm an cdv ct)) (hcd : s.heap.CodeRec cdv qual) (hroom : A.depth < recursionLimit)
    (hbind : BindsTo s (fnX name qual params body scope [] dV kV doc pm an cdv ct) args binds)
    (hkind : ∀ n, ∀ x ∈ binds, scope.names.lookup x.1 = some .local ∨ (scope.names.lookup x.1 = some .cell ∧ ((cellsFrom n scope.names []).lookup x.1).isSome = true))
    (hnd : ((cellsFrom 0 scope.names []).map (·.1)).Nodup)
    (hP : ∀ v news' s' h₀', KtsTurn (outer.filterMap (·.frame)) h₀ h₀' → Below A₀ base outer h₀' → Fr h₀' L s'.heap m → News h₀' L s'.heap news' → P v news' s' → R (.ok (.ret v)) s')
    (h : ∀ g L' h₁ tk cells, Fr h₀ L g m → Fr g L' h₁ (bindL (envOfC qual scope L' f cdv).kindOf binds fun _ => none) → News g L' h₁ (cells ++ news) →
      CellsAre (bindC (envOfC qual scope L' f cdv).kindOf binds fun _ => none) (cellsFrom (L' + 1) scope.names []) cells → Below A base (env :: outer) g → KtsDicts ((env :: outer).filterMap (·.frame)) g → h₀.StaysIn g → (∀ p ∈ news, p.1 < L') →
      wpAny (model prog w) (A.deeper (envOfC qual scope L' f cdv)) (execs body (envOfC qual scope L' f cdv))
        (fun fl s' => LeaveT ((env :: outer).filterMap (·.frame)) g P (match fl with | .ret v => v | _ => .none) s')
        (fun e s' => wpAny (model prog w) (A.deeper (envOfC qual scope L' f cdv)) (leaving (envOfC qual scope L' f cdv) e) (fun _ s'' => R (.error e) s'') (fun e' s'' => R (.error e') s'') s')
        { s with heap := h₁, toks := tk })
    (hco : scope.isCoroutine = false) (hgen : scope.isGenerator = false) (hk : scope.kind = .function) : codeAny (model prog w) A (.call (.ref f) args) R s := by
  obtain ⟨FG, BG, st, _⟩ := groundX (R := R) B F N hA hf hke
  have DG : KtsDicts ((env :: outer).filterMap (·.frame)) (hideAll s.heap (news.map (·.1))) := fun b hb => by
    rcases fr_mem hf hb with rfl | hb
    · obtain ⟨oL, es, ep, h1, h2, _⟩ := FG.ns; exact ⟨oL, es, ep, h1, h2⟩
    · obtain ⟨o, es, n, h1, h2⟩ := D b hb; exact ⟨o, es, n, st b o h1, h2⟩
  refine codeAny_call_function hroom ho hd hco hgen rfl hcd (hbind _ _ _ _ ?_)
  refine wpAny_newFunctionEnv_cells hk (hkind _) fun env' he s' x => ?_
  subst he
  refine ⟨(hlim.keeps F.keep).keeps x.toInCall.keep, codeAny_func ?_⟩
  obtain ⟨h₁, tk, rfl, _⟩ := x.done
  have hk₁ := x.toInCall.keep
  obtain ⟨cells, NC, Y⟩ := Cl.news (h₀ := s.heap) (Nat.le_refl _) fun n c hm => ⟨x.cell n c (lookup_of_mem_nodup (cellsFrom_names scope.names 0 (s.heap.objs.size + 1) [] [] rfl ▸ hnd) hm), x.above n c hm⟩
  refine wpAny_mono (h _ s.heap.objs.size h₁ tk cells FG ⟨x.toInCall.ns, fun b o e => hk₁ b o (of_hideAll _ e), Nat.le_of_eq (hideAll_size _ _)⟩ (fun p hp => ?_) Y BG DG st (fun p hp => Heap.lt_size (N p hp).1)) (fun fl s' hl => ?_) fun _ _ y => y
  · rcases List.mem_append.mp hp with hp | hp
    · refine ⟨(NC p hp).1, (NC p hp).2.1, ?_⟩
      cases q : (hideAll s.heap (news.map (·.1))).get? p.1 with
      | none => rfl
      | some o => have := of_hideAll _ q; rw [(NC p hp).2.2] at this; cases this
    · exact ⟨hk₁ _ _ (N p hp).1, Nat.ne_of_lt (Heap.lt_size (N p hp).1), hideAll_none _ (List.mem_map_of_mem hp)⟩
  · obtain ⟨g', L', m', news', T', F', N', p⟩ := hl
    obtain ⟨h₀', t1, t2, t3, t4⟩ := turn_back B FG hf T' F' N'
    exact hP _ _ _ h₀' t1 t2 t3 t4 p
end

section
variable {c : Wc} {f : Fc} {A : Around} {α β : Type} {m : Loc} {M I : Led} {E : Value → Shared → Prop}

/-- a code, run as a call is -/
structure Cd (c : Wc) (f : Fc) (A : Around) (m : Loc) (M I : Led) (k : Code) (Q : Value → Led → Led → Prop) (E : Value → Shared → Prop) : Prop where
  run : ∀ s : Shared, Live c f m M I s.heap → codeAny (model PW c.w) A k (fun r s' => match r with
    | .ok (.ret v) => ∃ h' tk M' I', s' = { s with heap := h', toks := tk } ∧ Live c f m M' I' h' ∧ Q v M' I'
    | .ok _ => False
    | .error e => E e s') s
theorem Cd.te {g : Value} {args : List Value} {Q : Value → Led → Led → Prop} (h : Cd c f A m M I (.call g ⟨args, []⟩) Q E) : Te c f A m M I (call g args) Q E :=
  .mk fun s L => wpAny_call (codeAny_mono (h.run s L) fun r s' q => by
    rcases r with e | (_ | _ | _ | _) <;> exact q)
theorem Cd.mono {k : Code} {Q Q' : Value → Led → Led → Prop} (h : Cd c f A m M I k Q E) (hq : ∀ v M' I', Q v M' I' → Q' v M' I') : Cd c f A m M I k Q' E :=
  .mk fun s L => codeAny_mono (h.run s L) fun r s' q => by
    rcases r with e | (_ | _ | _ | _) <;> first | exact q | (obtain ⟨h', tk, M', I', e, L', q⟩ := q; exact ⟨h', tk, M', I', e, L', hq _ _ _ q⟩)

/-- what a def promises, whoever calls it -/
structure Fn (c : Wc) (r : Nat) (g : Value) (args : List Value) (M I : Led) (Q : Value → Led → Led → Prop) : Prop where
  run : ∀ (f : Fc) (A : Around) (m : Loc) (E : Value → Shared → Prop), Ar f A r → Cd c f A m M I (.call g ⟨args, []⟩) Q E
theorem Fn.te {r r' : Nat} {g : Value} {args : List Value} {Q Q' : Value → Led → Led → Prop} (h : Fn c r g args M I Q) (a : Ar f A r') (hr : r' ≤ r) (hr' : r ≤ 100) (hq : ∀ v M' I', Q v M' I' → Q' v M' I') : Te c f A m M I (call g args) Q' E :=
  ((h.run f A m E ⟨a.hd, a.fr, Nat.le_trans a.dp (by omega), Nat.le_trans a.un (by omega), hr'⟩).mono hq).te
theorem Ar.up {r r' : Nat} (a : Ar f A r') (hr : r' ≤ r) (hr' : r ≤ 100) : Ar f A r := ⟨a.hd, a.fr, Nat.le_trans a.dp (by omega), Nat.le_trans a.un (by omega), hr'⟩

structure DefI where
  qual : Str
  params : Arguments
  body : List Stmt
  scope : Scope
  dV : Value

def fnView (K : Frag) (fa : Addr) : Option (DefI × Value) := match K.lookup fa with
  | some ⟨_, _, .func fd, _⟩ => (match fd.body, fd.closure with
      | .stmts b, [] => if fd.globals = mainGlobals ∧ fd.builtins = builtinsNs ∧ codeIn K fd.code fd.qualname = true then some (⟨fd.qualname, fd.params, b, fd.scope, fd.defaults⟩, fd.code) else none
      | _, _ => none)
  | _ => none
theorem fnView_spec {K : Frag} {fa : Addr} {d : DefI} {cd : Value} (e : fnView K fa = some (d, cd)) : ∃ oc od osl name kV doc pm an ct, K.lookup fa = some ⟨oc, od, .func (fnX name d.qual d.params d.body d.scope [] d.dV kV doc pm an cd ct), osl⟩ ∧ codeIn K cd d.qual = true := by
  unfold fnView at e
  split at e
  · rename_i oc od fd osl ho
    split at e
    · rename_i b hb hc
      split at e
      · rename_i hg
        cases e
        obtain ⟨g1, g2, g3⟩ := hg
        refine ⟨oc, od, osl, fd.name, fd.kwdefaults, fd.doc, fd.pyModule, fd.annotations, fd.closureTuple, ?_, g3⟩
        rw [ho]
        obtain ⟨a1, a2, a3, a4, a5, a6, a7, a8, a9, a10, a11, a12, a13, a14⟩ := fd
        dsimp only at hb hc g1 g2
        subst hb hc g1 g2
        rfl
      · cases e
    · cases e
  · cases e

def fcOf (f : Fc) (A : Around) (d : DefI) (fa : Addr) (cd : Value) (cl : List (Str × Addr)) (L : Addr) (g : Heap) : Fc :=
  { cn := d.qual, cs := d.scope, a := fa, cd := cd, cl := cl, L := L, outer := f.env :: f.outer, A₀ := A, base := f.base, h₀ := g }
/-- a frame of a def, its particulars in one bundle -/
structure Fq where
  f : Fc
  A : Around
  fa : Addr
  cd : Value
  L : Addr
  g : Heap
def fq (d : DefI) (cl : List (Str × Addr)) (q : Fq) : Fc := fcOf q.f q.A d q.fa q.cd cl q.L q.g
def retOf (fl : Flow) : Value := match fl with | .ret v => v | _ => .none

theorem Ar.deeper {r : Nat} {d : DefI} {fa : Addr} {cd : Value} {cl : List (Str × Addr)} {L : Addr} {g : Heap} (a : Ar f A r) (hr : r < 100) :
    Ar (fcOf f A d fa cd cl L g) (A.deeper (fcOf f A d fa cd cl L g).env) (r + 1) :=
  ⟨a.hd, by show A.frames.map _ = _; rw [a.fr]; rfl, by show A.depth + 1 ≤ _; have := a.dp; omega, by show A.units + 3 ≤ _; have := a.un; omega, hr⟩

/-- the ground of a callee -/
theorem Live0.bel {g₀ g : Heap} {h : Heap} {d : DefI} {fa : Addr} {cd : Value} {cl : List (Str × Addr)} {L : Addr} (Lv : Live0 c f g₀ m M I h) (BG : Below A f.base (f.env :: f.outer) g) (DG : KtsDicts ((f.env :: f.outer).filterMap (·.frame)) g) : Bel c (fcOf f A d fa cd cl L g) g :=
  ⟨BG, DG, KtsTurn.refl, Lv.B.XB, Lv.B.TB⟩
/-- back in the caller -/
theorem Live0.back {g₀ h₀' h h' : Heap} {M' I' : Led} (Lv : Live0 c f g₀ m M I h) (T : KtsTurn (f.outer.filterMap (·.frame)) g₀ h₀') (B : Below f.A₀ f.base f.outer h₀') (F : Fr h₀' f.L h' (lk m)) (N : News h₀' f.L h' (M' ++ I')) (ap : apart M' I') : Live c f m M' I' h' :=
  ⟨h₀', ⟨B, Lv.B.dicts.turn T, Lv.B.turn.trans T, Lv.B.XB, Lv.B.TB⟩, F, Lv.B.XB.keeps B.stays, N, Lv.B.TB.keeps B.stays, ap, Lv.kd⟩
def CallP (c : Wc) (f : Fc) (s : Shared) (Q : Value → Led → Led → Prop) (v : Value) (news : List (Addr × Obj)) (s' : Shared) : Prop := ∃ h' tk M' I', s' = { s with heap := h', toks := tk } ∧ news = M' ++ I' ∧ apart M' I' ∧ Q v M' I'
theorem Live0.ret {g₀ : Heap} {s : Shared} {Q : Value → Led → Led → Prop} (Lv : Live0 c f g₀ m M I s.heap) (v : Value) (news' : List (Addr × Obj)) (s' : Shared) (h₀' : Heap) (T : KtsTurn (f.outer.filterMap (·.frame)) g₀ h₀') (B : Below f.A₀ f.base f.outer h₀') (F : Fr h₀' f.L s'.heap (lk m)) (N : News h₀' f.L s'.heap news')
    (p : CallP c f s Q v news' s') : ∃ h' tk M' I', s' = { s with heap := h', toks := tk } ∧ Live c f m M' I' h' ∧ Q v M' I' := by
  obtain ⟨h', tk, M', I', rfl, rfl, ap, q⟩ := p
  exact ⟨h', tk, M', I', rfl, Lv.back T B F N ap, q⟩
/-- the end of a callee's body -/
theorem Live.leave {f' : Fc} {fs : List Addr} {s : Shared} {h' : Heap} {tk : Nat} {m' : Loc} {M' I' : Led} {Q : Value → Led → Led → Prop} {v : Value} (L3 : Live c f' m' M' I' h') (e : f'.outer.filterMap (·.frame) = fs) (q : Q v M' I') :
    LeaveT fs f'.h₀ (CallP c f s Q) v { s with heap := h', toks := tk } := by
  obtain ⟨g', L3⟩ := L3
  exact ⟨g', f'.L, lk m', M' ++ I', e ▸ L3.B.turn, L3.F, L3.N, h', tk, M', I', rfl, rfl, L3.ap, q⟩

/-- into a def without cells -/
theorem enterB {fa : Addr} {d : DefI} {cd : Value} {r : Nat} {args : List Value} {binds : List (Str × Value)} {loc : Loc} {Q : Value → Led → Led → Prop} (hrev : binds.reverse = loc)
    (ho : fnView c.K fa = some (d, cd)) (a : Ar f A r) (hr : r < 100)
    (hbind : ∀ s : Shared, Live c f m M I s.heap → ∀ nm kV doc pm an ct, BindsTo s (fnX nm d.qual d.params d.body d.scope [] d.dV kV doc pm an cd ct) ⟨args, []⟩ binds)
    (hloc : ∀ y ∈ binds, d.scope.names.lookup y.1 = some .local)
    (hcell : ∀ x ∈ d.scope.names, x.2 ≠ .cell) (hco : d.scope.isCoroutine = false) (hgen : d.scope.isGenerator = false) (hk : d.scope.kind = .function)
    (h : ∀ (q : Fq) (A' : Around) (R : Flow → Loc → Led → Led → Prop), Ar (fq d [] q) A' (r + 1) → Ends (fun fl _ M' I' => Q (retOf fl) M' I') R → Ts c (fq d [] q) A' loc M I (execs d.body (fq d [] q).env) R FF) :
    Cd c f A m M I (.call (.ref fa) ⟨args, []⟩) Q E := by
  subst hrev
  refine .mk fun s ⟨g₀, Lv⟩ => ?_
  obtain ⟨oc, od, osl, name, kV, doc, pm, an, ct, hlk, hcd⟩ := fnView_spec ho
  refine callT_plain (env := f.env) (P := CallP c f s Q) Lv.B.below Lv.B.dicts Lv.F Lv.N Lv.T.nolimit a.fr rfl Lv.kd (Lv.Xh _ _ hlk) rfl (codeRec_of Lv.Xh hcd) (by have := a.dp; show A.depth < 1000; omega) (hbind s ⟨g₀, Lv⟩ _ _ _ _ _ _) hloc
    Lv.ret (fun g L' h₁ FG F' N' BG DG st lt => ?_) hcell hco hgen hk
  have L2 : Live0 c (fcOf f A d fa cd [] L' g) g binds.reverse M I h₁ := ⟨Lv.bel BG DG, F', Lv.X.keeps st, N', Lv.T.keeps st, Lv.ap, hk⟩
  refine wpAny_mono ((h ⟨f, A, fa, cd, L', g⟩ _ (fun fl _ M' I' => Q (retOf fl) M' I') (a.deeper (d := d) (fa := fa) (cd := cd) (cl := []) (L := L') (g := g) hr) fun _ _ _ _ q => q).run { s with heap := h₁, toks := s.toks + binds.length } ⟨g, L2⟩) (fun fl s' q => ?_) fun _ _ q => q.elim
  obtain ⟨h', tk, m', M', I', rfl, L3, q⟩ := q
  exact L3.leave rfl q

/-- the same, the defaults unread -/
theorem enter {fa : Addr} {d : DefI} {cd : Value} {r : Nat} {args : List Value} {binds : List (Str × Value)} {loc : Loc} {Q : Value → Led → Led → Prop} (hrev : binds.reverse = loc)
    (ho : fnView c.K fa = some (d, cd)) (a : Ar f A r) (hr : r < 100)
    (hbind : ∀ nm kV doc pm an ct, bindArgs (fnX nm d.qual d.params d.body d.scope [] d.dV kV doc pm an cd ct) ⟨args, []⟩ = pure binds)
    (hloc : ∀ y ∈ binds, d.scope.names.lookup y.1 = some .local)
    (hcell : ∀ x ∈ d.scope.names, x.2 ≠ .cell) (hco : d.scope.isCoroutine = false) (hgen : d.scope.isGenerator = false) (hk : d.scope.kind = .function)
    (h : ∀ (q : Fq) (A' : Around) (R : Flow → Loc → Led → Led → Prop), Ar (fq d [] q) A' (r + 1) → Ends (fun fl _ M' I' => Q (retOf fl) M' I') R → Ts c (fq d [] q) A' loc M I (execs d.body (fq d [] q).env) R FF) :
    Cd c f A m M I (.call (.ref fa) ⟨args, []⟩) Q E := by
  subst hrev
  refine .mk fun s ⟨g₀, Lv⟩ => ?_
  obtain ⟨oc, od, osl, name, kV, doc, pm, an, ct, hlk, hcd⟩ := fnView_spec ho
  refine callT_plain (env := f.env) (P := CallP c f s Q) Lv.B.below Lv.B.dicts Lv.F Lv.N Lv.T.nolimit a.fr rfl Lv.kd (Lv.Xh _ _ hlk) rfl (codeRec_of Lv.Xh hcd) (by have := a.dp; show A.depth < 1000; omega) (BindsTo.of_eq (hbind _ _ _ _ _ _)) hloc
    Lv.ret (fun g L' h₁ FG F' N' BG DG st lt => ?_) hcell hco hgen hk
  have L2 : Live0 c (fcOf f A d fa cd [] L' g) g binds.reverse M I h₁ := ⟨Lv.bel BG DG, F', Lv.X.keeps st, N', Lv.T.keeps st, Lv.ap, hk⟩
  refine wpAny_mono ((h ⟨f, A, fa, cd, L', g⟩ _ (fun fl _ M' I' => Q (retOf fl) M' I') (a.deeper (d := d) (fa := fa) (cd := cd) (cl := []) (L := L') (g := g) hr) fun _ _ _ _ q => q).run { s with heap := h₁, toks := s.toks + binds.length } ⟨g, L2⟩) (fun fl s' q => ?_) fun _ _ q => q.elim
  obtain ⟨h', tk, m', M', I', rfl, L3, q⟩ := q
  exact L3.leave rfl q

theorem news_swap {h₀ h : Heap} {L : Addr} {a b d : Led} (N : News h₀ L h (a ++ (b ++ d))) : News h₀ L h (b ++ (a ++ d)) := fun p hp => N p (by
  simp only [List.mem_append] at hp ⊢
  rcases hp with h | h | h
  · exact .inr (.inl h)
  · exact .inl h
  · exact .inr (.inr h))

/-- into a def with one cell, of a parameter -/
theorem enterP {fa : Addr} {d : DefI} {cd : Value} {r : Nat} {args : List Value} {binds : List (Str × Value)} {Q : Value → Led → Led → Prop} {n : Str} {v : Value} {loc : Loc}
    (ho : fnView c.K fa = some (d, cd)) (a : Ar f A r) (hr : r < 100)
    (hbind : ∀ nm kV doc pm an ct, bindArgs (fnX nm d.qual d.params d.body d.scope [] d.dV kV doc pm an cd ct) ⟨args, []⟩ = pure binds)
    (hkind : (binds.all fun y => d.scope.names.lookup y.1 == some .local || d.scope.names.lookup y.1 == some .cell) = true)
    (hcf : ∀ L, cellsFrom L d.scope.names [] = [(n, L)])
    (hv : bindC (fun x => d.scope.names.lookup x) binds (fun _ => none) n = some v) (hl : bindL (fun x => d.scope.names.lookup x) binds (fun _ => none) = lk loc)
    (hco : d.scope.isCoroutine = false) (hgen : d.scope.isGenerator = false) (hk : d.scope.kind = .function)
    (h : ∀ (L : Addr) (q : Fq) (A' : Around) (R : Flow → Loc → Led → Led → Prop), Ar (fq d [(n, L)] q) A' (r + 1) → Ends (fun fl _ M' I' => Q (retOf fl) M' I') R → ∀ o, o.data = .cell (some v) → Ts c (fq d [(n, L)] q) A' loc M ((L, o) :: I) (execs d.body (fq d [(n, L)] q).env) R FF) :
    Cd c f A m M I (.call (.ref fa) ⟨args, []⟩) Q E := by
  refine .mk fun s ⟨g₀, Lv⟩ => ?_
  obtain ⟨oc, od, osl, name, kV, doc, pm, an, ct, hlk, hcd⟩ := fnView_spec ho
  have hcf1 : ∀ L, (envOfC d.qual d.scope L fa cd) = envX d.qual d.scope L fa cd [(n, L + 1)] := fun L => by
    unfold envOfC; rw [hcf]
  refine callT_cells (env := f.env) (P := CallP c f s Q) Lv.B.below Lv.B.dicts Lv.F Lv.N Lv.T.nolimit a.fr rfl Lv.kd (Lv.Xh _ _ hlk) rfl (codeRec_of Lv.Xh hcd) (by have := a.dp; show A.depth < 1000; omega) (BindsTo.of_eq (hbind _ _ _ _ _ _)) (kindsX hkind)
    (by rw [hcf]; simp) Lv.ret (fun g L' h₁ tk cells FG F' N' Y BG DG st lt => ?_) hco hgen hk
  rw [hcf] at Y
  obtain ⟨o, rfl, hd⟩ := Y.one
  have hd' : o.data = .cell (some v) := hd.trans (congrArg Data.cell hv)
  have F2 : Fr g L' h₁ (lk loc) := by
    have e : bindL (envOfC d.qual d.scope L' fa cd).kindOf binds (fun _ => none) = lk loc := hl
    rw [e] at F'; exact F'
  rw [hcf1]
  have L2 : Live0 c (fcOf f A d fa cd [(n, L' + 1)] L' g) g loc M ((L' + 1, o) :: I) h₁ := ⟨Lv.bel BG DG, F2, Lv.X.keeps st, news_swap (a := [(L' + 1, o)]) N', Lv.T.keeps st, ⟨Lv.ap.1, fun p hp q hq => by
    rcases List.mem_cons.mp hq with rfl | hq
    · exact Nat.ne_of_lt (Nat.lt_succ_of_lt (lt p (List.mem_append_left _ hp)))
    · exact Lv.ap.2 p hp q hq⟩, hk⟩
  refine wpAny_mono ((h (L' + 1) ⟨f, A, fa, cd, L', g⟩ _ (fun fl _ M' I' => Q (retOf fl) M' I') (a.deeper (d := d) (fa := fa) (cd := cd) (cl := [(n, L' + 1)]) (L := L') (g := g) hr) (fun _ _ _ _ q => q) o hd').run { s with heap := h₁, toks := tk } ⟨g, L2⟩) (fun fl s' q => ?_) fun _ _ q => q.elim
  obtain ⟨h', tk, m', M', I', rfl, L3, q⟩ := q
  exact L3.leave rfl q
/-- into a def with one cell, of a name that the body stores -/
theorem enterS {fa : Addr} {d : DefI} {cd : Value} {r : Nat} {args : List Value} {binds : List (Str × Value)} {Q : Value → Led → Led → Prop} {n : Str} {loc : Loc}
    (ho : fnView c.K fa = some (d, cd)) (a : Ar f A r) (hr : r < 100)
    (hbind : ∀ nm kV doc pm an ct, bindArgs (fnX nm d.qual d.params d.body d.scope [] d.dV kV doc pm an cd ct) ⟨args, []⟩ = pure binds)
    (hkind : (binds.all fun y => d.scope.names.lookup y.1 == some .local || d.scope.names.lookup y.1 == some .cell) = true)
    (hcf : ∀ L, cellsFrom L d.scope.names [] = [(n, L)])
    (hv : bindC (fun x => d.scope.names.lookup x) binds (fun _ => none) n = none) (hl : bindL (fun x => d.scope.names.lookup x) binds (fun _ => none) = lk loc)
    (hco : d.scope.isCoroutine = false) (hgen : d.scope.isGenerator = false) (hk : d.scope.kind = .function)
    (h : ∀ (L : Addr) (q : Fq) (A' : Around) (R : Flow → Loc → Led → Led → Prop), Ar (fq d [(n, L)] q) A' (r + 1) → Ends (fun fl _ M' I' => Q (retOf fl) M' I') R → ∀ o, o.data = .cell none → Ts c (fq d [(n, L)] q) A' loc ((L, o) :: M) I (execs d.body (fq d [(n, L)] q).env) R FF) :
    Cd c f A m M I (.call (.ref fa) ⟨args, []⟩) Q E := by
  refine .mk fun s ⟨g₀, Lv⟩ => ?_
  obtain ⟨oc, od, osl, name, kV, doc, pm, an, ct, hlk, hcd⟩ := fnView_spec ho
  have hcf1 : ∀ L, (envOfC d.qual d.scope L fa cd) = envX d.qual d.scope L fa cd [(n, L + 1)] := fun L => by
    unfold envOfC; rw [hcf]
  refine callT_cells (env := f.env) (P := CallP c f s Q) Lv.B.below Lv.B.dicts Lv.F Lv.N Lv.T.nolimit a.fr rfl Lv.kd (Lv.Xh _ _ hlk) rfl (codeRec_of Lv.Xh hcd) (by have := a.dp; show A.depth < 1000; omega) (BindsTo.of_eq (hbind _ _ _ _ _ _)) (kindsX hkind)
    (by rw [hcf]; simp) Lv.ret (fun g L' h₁ tk cells FG F' N' Y BG DG st lt => ?_) hco hgen hk
  rw [hcf] at Y
  obtain ⟨o, rfl, hd⟩ := Y.one
  have hd' : o.data = .cell none := hd.trans (congrArg Data.cell hv)
  have F2 : Fr g L' h₁ (lk loc) := by
    have e : bindL (envOfC d.qual d.scope L' fa cd).kindOf binds (fun _ => none) = lk loc := hl
    rw [e] at F'; exact F'
  rw [hcf1]
  have L2 : Live0 c (fcOf f A d fa cd [(n, L' + 1)] L' g) g loc ((L' + 1, o) :: M) I h₁ := ⟨Lv.bel BG DG, F2, Lv.X.keeps st, N', Lv.T.keeps st, ⟨by
    rw [List.map_cons, List.nodup_cons]
    refine ⟨fun hm => ?_, Lv.ap.1⟩
    obtain ⟨p, hp, e⟩ := List.mem_map.mp hm
    exact absurd (lt p (List.mem_append_left _ hp)) (by rw [e]; exact Nat.not_lt.mpr (Nat.le_succ _)), fun p hp q hq => by
    rcases List.mem_cons.mp hp with rfl | hp
    · exact Nat.ne_of_gt (Nat.lt_succ_of_lt (lt q (List.mem_append_right _ hq)))
    · exact Lv.ap.2 p hp q hq⟩, hk⟩
  refine wpAny_mono ((h (L' + 1) ⟨f, A, fa, cd, L', g⟩ _ (fun fl _ M' I' => Q (retOf fl) M' I') (a.deeper (d := d) (fa := fa) (cd := cd) (cl := [(n, L' + 1)]) (L := L') (g := g) hr) (fun _ _ _ _ q => q) o hd').run { s with heap := h₁, toks := tk } ⟨g, L2⟩) (fun fl s' q => ?_) fun _ _ q => q.elim
  obtain ⟨h', tk, m', M', I', rfl, L3, q⟩ := q
  exact L3.leave rfl q
end



section
variable {c : Wc} {f : Fc} {A : Around} {α β : Type} {m : Loc} {M I : Led} {E : Value → Shared → Prop} {g : Heap}

/-! statements -/
theorem s_nil {Q : Flow → Loc → Led → Led → Prop} (h : Q .next m M I) : Ts c f A m M I (execs [] f.env) Q E := .mk fun s L => wpAny_execs_nil ⟨s.heap, s.toks, m, M, I, rfl, L, h⟩
def After (c : Wc) (f : Fc) (A : Around) (rest : List Stmt) (Q : Flow → Loc → Led → Led → Prop) (E : Value → Shared → Prop) (fl : Flow) (m : Loc) (M I : Led) : Prop := match fl with
  | .next => Ts c f A m M I (execs rest f.env) Q E
  | fl => Q fl m M I
theorem s_cons {st rest} {Q : Flow → Loc → Led → Led → Prop} (h : Ts c f A m M I (exec st f.env) (After c f A rest Q E) E) : Ts c f A m M I (execs (st :: rest) f.env) Q E :=
  .mk fun s L => wpAny_execs_cons (h.step L fun fl h1 t1 m1 M1 I1 L1 q => by
    cases fl <;> first | exact q.run { s with heap := h1, toks := t1 } L1 | exact ⟨h1, t1, m1, M1, I1, rfl, L1, q⟩)
theorem s_ret {e pos} {Q : Flow → Loc → Led → Led → Prop} (h : Te c f A m M I (eval e f.env) (kRet m Q) E) : Ts c f A m M I (exec (.Return (some e) pos) f.env) Q E :=
  .mk fun s L => wpAny_Return_some (h.step L fun v h1 t1 M1 I1 L1 q => ⟨h1, t1, m, M1, I1, rfl, L1, q⟩)
theorem s_expr {e pos} {Q : Flow → Loc → Led → Led → Prop} (h : Te c f A m M I (eval e f.env) (kNx m Q) E) (hi : interactive f.env = false) (hs : swapsWith e none pos.line f.env = pure false) :
    Ts c f A m M I (exec (.Expr e pos) f.env) Q E :=
  .mk fun s L => wpAny_Expr_any (h.step L fun v h1 t1 M1 I1 L1 q => ⟨h1, t1, m, M1, I1, rfl, L1, q⟩) hi hs
theorem s_if {test body orelse pos} {Q : Flow → Loc → Led → Led → Prop} (h : Te c f A m M I (isTrue test f.env (eval test f.env)) (kIfS c f A m E body orelse Q) E) :
    Ts c f A m M I (exec (.If test body orelse pos) f.env) Q E :=
  .mk fun s L => wpAny_If (h.step L fun b h1 t1 M1 I1 L1 q => by cases b; exact q.run { s with heap := h1, toks := t1 } L1; exact q.run { s with heap := h1, toks := t1 } L1)

theorem lk_put (x : Str) (v : Value) (m : Loc) : (fun y => if y = x then some v else lk m y) = lk ((x, v) :: m) := by
  funext y
  unfold lk
  rw [List.lookup_cons]
  by_cases h : y = x
  · simp [h]
  · rw [if_neg h, beq_eq_false_iff_ne.mpr h]
theorem Live0.put {h h' : Heap} {x : Str} {v : Value} (L : Live0 c f g m M I h) (F : Fr g f.L h' (fun y => if y = x then some v else lk m y)) (N : News g f.L h' (M ++ I)) : Live0 c f g ((x, v) :: m) M I h' :=
  ⟨L.B, lk_put x v m ▸ F, L.X, N, L.T, L.ap, L.kd⟩
theorem n_local {x : Str} {v : Value} {Q : Unit → Loc → Led → Led → Prop} (hx : f.env.kindOf x = some .local) (h : Q () ((x, v) :: m) M I) : Ts c f A m M I (storeName f.env x v) Q E :=
  .mk fun s ⟨g, L⟩ => storeX_L L.F L.N (fun h' F' N' => ⟨h', _, (x, v) :: m, M, I, rfl, ⟨g, L.put F' N'⟩, h⟩) L.kd hx
theorem s_assign {x pos' value pos} {Q : Flow → Loc → Led → Led → Prop} (h : Te c f A m M I (eval value f.env) (kPut m x Q) E) (hx : f.env.kindOf x = some .local)
    (hs : swapsWith value (some (.Name x pos')) pos.line f.env = pure false) : Ts c f A m M I (exec (.Assign [.Name x pos'] value pos) f.env) Q E :=
  .mk fun s L => wpAny_Assign_Name (h.step L fun v h1 t1 M1 I1 L1 q => wpAny_mono ((n_local (Q := fun _ m M I => Q .next m M I) hx q).run { s with heap := h1, toks := t1 } L1) (fun _ _ q => q) fun _ _ q => q) hs

/-- a name that lies in a cell of the side that turns -/
theorem n_cell {x : Str} {v : Value} {v₀ : Option Value} {a : Addr} {o : Obj} {M' : Obj → Led} {Q : Unit → Loc → Led → Led → Prop} (hc : f.cl.lookup x = some a) (U : ∀ o', Up a o o' M (M' o')) (hd : o.data = .cell v₀) (hx : f.env.kindOf x = some .cell)
    (h : ∀ o', o'.data = .cell (some v) → Q () m (M' o') I) : Ts c f A m M I (storeName f.env x v) Q E := by
  refine .mk fun s L => ?_
  have hm := L.gM (U o).mem
  refine wpAny_storeName_cell L.kd hx hc ⟨o, hm, hd⟩ fun h' hv hs => ?_
  obtain ⟨o', ho', hd'⟩ := hv
  exact ⟨h', _, m, M' o', I, rfl, L.up (U o') hs ho', h o' hd'⟩
theorem s_assignC {x pos' value pos} {Q : Flow → Loc → Led → Led → Prop} (h : Te c f A m M I (eval value f.env) (kSto c f A m E x Q) E)
    (hs : swapsWith value (some (.Name x pos')) pos.line f.env = pure false) : Ts c f A m M I (exec (.Assign [.Name x pos'] value pos) f.env) Q E :=
  .mk fun s L => wpAny_Assign_Name (h.step L fun v h1 t1 M1 I1 L1 q => wpAny_mono (q.run { s with heap := h1, toks := t1 } L1) (fun _ _ q => q) fun _ _ q => q) hs

theorem s_assignT {elts k tpos value pos} {Q : Flow → Loc → Led → Led → Prop} (h : Te c f A m M I (eval value f.env) (kAsT c f A m E (.Tuple elts k tpos) Q) E)
    (hs : swapsWithSole [.Tuple elts k tpos] value pos.line f.env = pure false) (hw : swappedStores [.Tuple elts k tpos] value f.env = pure none) :
    Ts c f A m M I (exec (.Assign [.Tuple elts k tpos] value pos) f.env) Q E :=
  .mk fun s L => Assign_Tuple (h.step L fun v h1 t1 M1 I1 L1 q => wpAny_mono (q.run { s with heap := h1, toks := t1 } L1) (fun _ _ q => q) fun _ _ q => q) hs hw
theorem Live.ext {h h' : Heap} (L : Live c f m M I h) (he : Heap.ExtBut h.objs.size h h') : Live c f m M I h' :=
  L.keep fun b o e => he b o (Nat.ne_of_lt (Heap.lt_size e)) e
theorem u_tuple {env : Env} {elts : List Expr} {k} {pos : Pos} {t : Addr} {o : Obj} {vs : List Value} {n : Nat} {Q : Unit → Loc → Led → Led → Prop} (hh : A.handled = none) (ht : (t, o) ∈ I) (ho : o.cls = .type "tuple") (hd : o.data = .seq vs.toArray n)
    (hn : (assignEach elts env).length = vs.length) (hstar : (assignEach elts env).findIdx? (·.1) = none)
    (h : Ts c f A m M I (assignInOrder ((assignEach elts env).map (·.2)) vs) Q E) : Ts c f A m M I (assign (.Tuple elts k pos) env (.ref t)) Q E := by
  refine .mk fun s L => ?_
  have T : IsTup s.heap t vs.toArray := ⟨o, L.gI ht, ho, n, hd⟩
  exact assign_Tuple_tuple hh T (by simpa using hn) hstar fun h' he => h.run { s with heap := h' } (L.ext he)
theorem u_nil {xs : List Value} {Q : Unit → Loc → Led → Led → Prop} (h : Q () m M I) : Ts c f A m M I (assignInOrder [] xs) Q E := .mk fun s L => assignInOrder_nil ⟨s.heap, s.toks, m, M, I, rfl, L, h⟩
theorem u_cons {t : Value → Sem Unit} {ts : List (Value → Sem Unit)} {x : Value} {xs : List Value} {Q : Unit → Loc → Led → Led → Prop} (h : Ts c f A m M I (t x) (kUnp c f A E ts xs Q) E) :
    Ts c f A m M I (assignInOrder (t :: ts) (x :: xs)) Q E :=
  .mk fun s L => assignInOrder_cons (h.step L fun v h1 t1 m1 M1 I1 L1 q => q.run { s with heap := h1, toks := t1 } L1)
theorem as_name {env : Env} {x : Str} {pos : Pos} {v : Value} {Q : Unit → Loc → Led → Led → Prop} (h : Ts c f A m M I (storeName env x v) Q E) : Ts c f A m M I (assign (.Name x pos) env v) Q E :=
  .mk fun s L => assign_Name (h.run s L)

theorem s_assignA {o attr pos' value pos} {Q : Flow → Loc → Led → Led → Prop} (h : Te c f A m M I (eval value f.env) (kE c f A m E o f.env (kSetA c f A m E attr Q)) E)
    (hs : swapsWith value (some (.Attribute o attr pos')) pos.line f.env = pure false) : Ts c f A m M I (exec (.Assign [.Attribute o attr pos'] value pos) f.env) Q E :=
  .mk fun s L => plainObj_wpAny_Assign_Attribute (h.step L fun a h1 t1 M1 I1 L1 q => Te.step (s := { s with heap := h1, toks := t1 }) q L1 fun b h2 t2 M2 I2 L2 q => Te.step (s := { s with heap := h2, toks := t2 }) q L2 fun u h3 t3 M3 I3 L3 q => ⟨h3, t3, m, M3, I3, rfl, L3, q⟩) hs
theorem s_assignS {o i pos' value pos} {Q : Flow → Loc → Led → Led → Prop} (h : Te c f A m M I (eval value f.env) (kE c f A m E o f.env (kSetS c f A m E i Q)) E)
    (hs : swapsWith value (some (.Subscript o i pos')) pos.line f.env = pure false) : Ts c f A m M I (exec (.Assign [.Subscript o i pos'] value pos) f.env) Q E :=
  .mk fun s L => wpAny_Assign_Subscript (h.step L fun a h1 t1 M1 I1 L1 q => Te.step (s := { s with heap := h1, toks := t1 }) q L1 fun b h2 t2 M2 I2 L2 q => Te.step (s := { s with heap := h2, toks := t2 }) q L2 fun u h3 t3 M3 I3 L3 q =>
    Te.step (s := { s with heap := h3, toks := t3 }) q L3 fun u h4 t4 M4 I4 L4 q => ⟨h4, t4, m, M4, I4, rfl, L4, q⟩) hs

/-! calls of what is no def -/
theorem cw_M {env : Env} {g : Value} {first : List Value} {pos : Pos} {e : Expr} {rest : List Expr} {Q : Value → Led → Led → Prop} (hk : keeperOf g = pure .machine)
    (h : Te c f A m M I (spliced (backTo pos (starEach (e :: rest) env))) (kCall c f A m E g first Q) E)
    (he : starEach (e :: rest) env = (false, eval e env) :: starEach rest env := by rfl) (hp : (backTo pos (starEach rest env)).any (·.1) = false := by rfl) :
    Te c f A m M I (callWith pos g first (backTo pos (starEach (e :: rest) env)) []) Q E := by
  refine .mk fun s L => ?_
  have h1 := h.step (R := fun vs s₁ => True ∧ wpAny (model PW c.w) A (call g (first ++ vs)) (fun v s' => ∃ h' tk M' I', s' = { s with heap := h', toks := tk } ∧ Live c f m M' I' h' ∧ Q v M' I') E s₁) L fun v h1 t1 M1 I1 L1 q => ⟨trivial, q.run { s with heap := h1, toks := t1 } L1⟩
  rw [he] at h1 ⊢
  exact callWith_of (P := fun _ => True) (by show ((false || (backTo pos (starEach rest env)).any (·.1)) || false) = false; rw [hp]; rfl) (fun _ _ => ⟨.machine, .inr (.inl rfl), Looks.of_pure hk⟩) (evalArgs_plain h1)
theorem cw_M0 {env : Env} {g : Value} {first : List Value} {pos : Pos} {Q : Value → Led → Led → Prop} (hk : keeperOf g = pure .machine) (h : Te c f A m M I (call g (first ++ [])) Q E) :
    Te c f A m M I (callWith pos g first (backTo pos (starEach [] env)) []) Q E :=
  .mk fun s L => callWith_of (P := fun _ => True) rfl (fun _ _ => ⟨.machine, .inr (.inl rfl), Looks.of_pure hk⟩) (evalArgs_nil3 ⟨trivial, h.run s L⟩)

/-! dicts by names -/
inductive SDE (c : Wc) : List DictEntry → List (Str × Value) → Prop
  | nil : SDE c [] []
  | cons {es : List DictEntry} {kvs : List (Str × Value)} {k : Str} {tk : Tok} {v : Value} : SDE c es kvs → SDE c (⟨PyData.keyHash c.w.params k, .str k tk, v⟩ :: es) ((k, v) :: kvs)
def SD (c : Wc) (kvs : List (Str × Value)) (o : Obj) : Prop := ∃ es n, o = dictOf es n ∧ SDE c es kvs
noncomputable def putK (k : Str) (v : Value) : List (Str × Value) → List (Str × Value)
  | [] => [(k, v)]
  | p :: r => if p.1 == k then (p.1, v) :: r else p :: putK k v r
theorem SDE.put {es : List DictEntry} {kvs : List (Str × Value)} (x : SDE c es kvs) (k : Str) (tk : Tok) (v : Value) : SDE c (putL k (PyData.keyHash c.w.params k) (.str k tk) v es) (putK k v kvs) := by
  induction x with
  | nil => exact .cons .nil
  | @cons es kvs k' tk' v' r ih =>
    unfold putL putK
    show SDE c (if (k' == k) = true then _ else _) (if (k' == k) = true then _ else _)
    split
    · exact .cons r
    · exact .cons ih
theorem SDE.get {es : List DictEntry} {kvs : List (Str × Value)} (x : SDE c es kvs) (k : Str) : getL k es = some ((kvs.find? (fun p => p.1 == k)).map (·.2)) := by
  have hk : ∀ {es : List DictEntry} {kvs : List (Str × Value)}, SDE c es kvs → es.any (·.refKey) = false := by
    intro es kvs x
    induction x with
    | nil => rfl
    | cons r ih => rw [List.any_cons, ih]; rfl
  have hf : ∀ {es : List DictEntry} {kvs : List (Str × Value)}, SDE c es kvs → (es.find? (·.key.isStr k)).map (·.val) = (kvs.find? (fun p => p.1 == k)).map (·.2) := by
    intro es kvs x
    induction x with
    | nil => rfl
    | @cons es kvs k' tk' v' r ih =>
      rw [List.find?_cons, List.find?_cons]
      show Option.map _ (match (k' == k) with | true => _ | false => _) = Option.map _ (match (k' == k) with | true => _ | false => _)
      cases k' == k with
      | true => rfl
      | false => exact ih
  unfold getL
  rw [← hf x]
  cases es.find? (·.key.isStr k) with
  | some e => rfl
  | none => rw [hk x]; rfl
theorem SDE.length {es : List DictEntry} {kvs : List (Str × Value)} (x : SDE c es kvs) : es.length = kvs.length := by
  induction x with
  | nil => rfl
  | cons r ih => simp [ih]

/-! instances -/
structure GetOk (K : Frag) (C : Addr) (name : Str) : Prop where
  plain : plainGet K C name = true
  dict : hasDictIn K C = true
  no : ∃ attr, findIn K (.ref C) name = some attr ∧ noGet K attr = true
theorem g_own {x C dx : Addr} {od : Obj} {kvs : List (Str × Value)} {name : Str} {v : Value} {b : Bool} {Q : Value → Led → Led → Prop} (hx : (x, instObj C dx) ∈ I) (hd : (dx, od) ∈ I) (hs : SD c kvs od) (ok : GetOk c.K C name)
    (hl : (kvs.find? (fun p => p.1 == name)).map (·.2) = some v) (hv : handedIn v = true) (h : Q v M I) : Te c f A m M I (getAttr (.ref x) name b) Q E := by
  obtain ⟨es, n, rfl, he⟩ := hs
  obtain ⟨attr, h1, h2⟩ := ok.no
  exact Te.here (v := v) (fun s R L r => get_own L.F L.X ⟨L.gI hx, rfl, rfl, L.gI hd⟩ ok.plain ok.dict h1 h2 ((he.get name).trans (by rw [hl])) hv (r _)) h
theorem g_meth {x C dx fa : Addr} {od : Obj} {kvs : List (Str × Value)} {name : Str} {pl : Sem Bool} {Q : Value × List Value → Led → Led → Prop} (hx : (x, instObj C dx) ∈ I) (hd : (dx, od) ∈ I) (hs : SD c kvs od)
    (hp : plainGet c.K C name = true) (hf : findIn c.K (.ref C) name = some (some (.ref fa))) (ht : isFn c.K (.ref fa) = true) (hl : kvs.find? (fun p => p.1 == name) = none) (h : Q (.ref fa, [.ref x]) M I) :
    Te c f A m M I (getMethod (.ref x) name pl) Q E := by
  obtain ⟨es, n, rfl, he⟩ := hs
  exact Te.here (v := (.ref fa, [.ref x])) (fun s R L r => method_inst L.F L.X ⟨L.gI hx, rfl, rfl, L.gI hd⟩ hp hf ht ((he.get name).trans (by rw [hl]; rfl)) (r s.toks)) h

structure SetOk (K : Frag) (C : Addr) (name : Str) : Prop where
  set : findIn K (.ref C) "__setattr__" = some (some (.builtin "object.__setattr__"))
  plain : plainOver K C = true
  taker : takerIn K C name = some none
  dict : hasDictIn K C = true
theorem Up.upd {d : Addr} {o o' : Obj} : ∀ {l l' : Led} {I : Led}, Up d o o' l l' → (l.map (·.1)).Nodup → (∀ q ∈ I, d ≠ q.1) → Upd d o o' (l ++ I) (l' ++ I)
  | _, _, I, .head (r := r), hn, hi => by
    rw [List.map_cons, List.nodup_cons] at hn
    exact .head fun p hp => by
      rcases List.mem_append.mp hp with hp | hp
      · exact fun e => hn.1 (e ▸ List.mem_map_of_mem (f := (·.1)) hp)
      · exact Ne.symm (hi p hp)
  | _, _, I, .tail (p := q) u, hn, hi => by
    rw [List.map_cons, List.nodup_cons] at hn
    exact .tail (fun e => hn.1 (e ▸ List.mem_map_of_mem (f := (·.1)) u.mem)) (u.upd hn.2 hi)
theorem Live0.upd {h : Heap} {d : Addr} {o o' : Obj} {M' : Led} (L : Live0 c f g m M I h) (U : Up d o o' M M') : Upd d o o' (M ++ I) (M' ++ I) := U.upd L.ap.1 fun q hq => L.ap.2 _ U.mem q hq
theorem Live0.upN {h h' : Heap} {d : Addr} {o o' : Obj} {M' : Led} (L : Live0 c f g m M I h) (U : Up d o o' M M') (F : Fr g f.L h' (lk m)) (N : News g f.L h' (M' ++ I)) : Live0 c f g m M' I h' :=
  ⟨L.B, F, L.X, N, L.T, ⟨U.keys ▸ L.ap.1, fun p hp q hq => by
    rcases U.cases L.ap.1 p hp with rfl | ⟨h1, h2⟩
    · exact L.ap.2 _ U.mem q hq
    · exact L.ap.2 p h1 q hq⟩, L.kd⟩
theorem r_setattr {x C dx : Addr} {od : Obj} {kvs : List (Str × Value)} {name : Str} {v : Value} {M' : Obj → Led} {Q : Unit → Led → Led → Prop} (hx : (x, instObj C dx) ∈ I) (U : ∀ o', Up dx od o' M (M' o')) (hs : SD c kvs od) (ok : SetOk c.K C name)
    (hz : kvs.length ≤ 900) (h : ∀ o', SD c (putK name v kvs) o' → Q () (M' o') I) : Te c f A m M I (setAttr (.ref x) name v) Q E := by
  refine .mk fun s ⟨g, L⟩ => ?_
  obtain ⟨es, n, rfl, he⟩ := hs
  have hm := L.gM (U (dictOf es n)).mem
  have hp := he.put name (s.toks + 1) v
  have hlen : (putL name (PyData.keyHash c.w.params name) (.str name (s.toks + 1)) v es).length ≤ 1000 := by
    rw [hp.length]
    have : ∀ l : List (Str × Value), (putK name v l).length ≤ l.length + 1 := by
      intro l
      induction l with
      | nil => exact Nat.le_refl _
      | cons p r ih => unfold putK; split <;> simp only [List.length_cons] <;> omega
    have := this kvs
    omega
  refine set_dict L.F L.X L.N ⟨L.gI hx, rfl, rfl, hm⟩ rfl ok.set ok.plain ok.taker ok.dict (by rw [he.get name]; rfl) rfl (L.upd (U _)) hlen fun h' F' N' => ?_
  exact ⟨h', _, _, I, rfl, ⟨g, L.upN (U _) F' N'⟩, h _ ⟨_, _, rfl, hp⟩⟩

theorem Ar.make {r : Nat} {C : Addr} {args : List Value} (a : Ar f A r) (hr : r < 100) : Ar f (A.under (.builtin "type.__call__" ⟨.ref C :: args, []⟩)) (r + 1) :=
  ⟨a.hd, a.fr, by rw [depth_under_make]; have := a.dp; omega, by rw [units_under_make]; have := a.un; omega, hr⟩
theorem c_make {C fI : Addr} {args : List Value} {Q : Value → Led → Led → Prop} (hm : makesIn c.K C = true) (hi : findIn c.K (.ref C) "__init__" = some (some (.ref fI))) (hf : isFn c.K (.ref fI) = true)
    (h : ∀ x dx, Cd c f (A.under (.builtin "type.__call__" ⟨.ref C :: args, []⟩)) m ((dx, dictOf [] 0) :: M) ((x, instObj C dx) :: I) (.call (.ref fI) ⟨.ref x :: args, []⟩) (fun v M' I' => v = .none ∧ Q (.ref x) M' I') E) :
    Te c f A m M I (call (.ref C) args) Q E := by
  refine .mk fun s ⟨g, L⟩ => ?_
  refine call_cls L.F L.X L.N hm hi hf fun x dx h' F' N' l1 l2 => ?_
  have ap' : apart ((dx, dictOf [] 0) :: M) ((x, instObj C dx) :: I) := ⟨by
    rw [List.map_cons, List.nodup_cons]
    refine ⟨fun hm => ?_, L.ap.1⟩
    obtain ⟨p, hp, e⟩ := List.mem_map.mp hm
    exact absurd (l1 p (List.mem_append_left _ hp)) (by rw [e]; exact Nat.lt_irrefl _), fun p hp q hq => by
    rcases List.mem_cons.mp hp with rfl | hp
    · rcases List.mem_cons.mp hq with rfl | hq
      · exact Nat.ne_of_lt l2
      · exact Nat.ne_of_gt (l1 q (List.mem_append_right _ hq))
    · rcases List.mem_cons.mp hq with rfl | hq
      · exact Nat.ne_of_lt (Nat.lt_trans (l1 p (List.mem_append_left _ hp)) l2)
      · exact L.ap.2 p hp q hq⟩
  have L1 : Live0 c f g m ((dx, dictOf [] 0) :: M) ((x, instObj C dx) :: I) h' := ⟨L.B, F', L.X, fun p hp => N' p (by
    simp only [List.mem_append, List.mem_cons] at hp ⊢
    rcases hp with (h | h) | h | h
    · exact .inr (.inl h)
    · exact .inr (.inr (.inl h))
    · exact .inl h
    · exact .inr (.inr (.inr h))), L.T, ap', L.kd⟩
  refine codeAny_mono ((h x dx).run { s with heap := h' } ⟨g, L1⟩) fun r s' q => ?_
  rcases r with e | (v | _ | _ | _) <;> first | exact q | exact q.elim | skip
  obtain ⟨h2, tk, M', I', rfl, L2, rfl, q⟩ := q
  exact ⟨rfl, ⟨h2, tk, M', I', rfl, L2, q⟩⟩
end



def topSt (i : Nat) : Stmt := PW.main.body.getD i (.Pass default)
def defI (q : Str) (dV : Value) : Stmt → DefI
  | .FunctionDef _ a b _ _ _ s _ _ _ => ⟨q, a, b, s, dV⟩
  | _ => ⟨q, default, [], default, dV⟩
def clsSt (st : Stmt) (j : Nat) : Stmt := match st with
  | .ClassDef _ _ _ b _ _ _ _ _ _ _ => b.getD j (.Pass default)
  | _ => .Pass default

noncomputable abbrev d_kind_of : DefI := defI "kind_of" .none (topSt 13)
noncomputable abbrev d_told_plain : DefI := defI "told_plain" .none (topSt 14)
noncomputable abbrev d_told : DefI := defI "told" .none (topSt 15)
noncomputable abbrev d_trailer_of : DefI := defI "trailer_of" .none (topSt 21)
noncomputable abbrev d_is_cross_stream : DefI := defI "is_cross_stream" .none (topSt 22)
noncomputable abbrev d_is_object_stream : DefI := defI "is_object_stream" .none (topSt 24)
noncomputable abbrev d_drop_file_streams : DefI := defI "drop_file_streams" .none (topSt 27)
noncomputable abbrev d_table_of : DefI := defI "table_of" .none (topSt 31)
noncomputable abbrev d_is_of_type : DefI := defI "is_of_type" .none (topSt 32)
noncomputable abbrev d_packed_pieces : DefI := defI "packed_pieces" .none (topSt 33)
noncomputable abbrev d_all_pieces : DefI := defI "all_pieces" .none (topSt 34)
noncomputable abbrev d_trailers_of : DefI := defI "trailers_of" .none (topSt 35)
noncomputable abbrev d_joined : DefI := defI "joined" .none (topSt 36)
noncomputable abbrev d_last_catalog : DefI := defI "last_catalog" .none (topSt 37)
noncomputable abbrev d_shelf_from : DefI := defI "shelf_from" .none (topSt 38)
noncomputable abbrev d_true_length : DefI := defI "true_length" .none (topSt 39)
noncomputable abbrev d_with_true_lengths : DefI := defI "with_true_lengths" .none (topSt 40)
noncomputable abbrev d_mended_by : DefI := defI "mended_by" .none (topSt 41)
noncomputable abbrev d_law_draw : DefI := defI "_law_draw" .none (topSt 43)
noncomputable abbrev d_law_read : DefI := defI "_law_read" .none (topSt 44)
noncomputable abbrev d_law_value : DefI := defI "_law_value" .none (topSt 45)
noncomputable abbrev d_law : DefI := defI "law" .none (topSt 46)
noncomputable abbrev d_PaperError_init__ : DefI := defI "PaperError.__init__" (.ref 29) (clsSt (topSt 2) 0)
noncomputable abbrev d_Name_init__ : DefI := defI "Name.__init__" (.none) (clsSt (topSt 9) 0)
noncomputable abbrev d_Stream_init__ : DefI := defI "Stream.__init__" (.none) (clsSt (topSt 11) 0)
noncomputable abbrev d_Lookup_init__ : DefI := defI "Lookup.__init__" (.ref 285) (clsSt (topSt 17) 0)
noncomputable abbrev d_Lookup_fetch : DefI := defI "Lookup.fetch" (.none) (clsSt (topSt 17) 1)
noncomputable abbrev d_Lookup_get : DefI := defI "Lookup.get" (.none) (clsSt (topSt 17) 2)
noncomputable abbrev d_Shelf_drop : DefI := defI "Shelf.drop" (.none) (clsSt (topSt 18) 2)
noncomputable abbrev d_Shelf_numbers : DefI := defI "Shelf.numbers" (.none) (clsSt (topSt 18) 3)
noncomputable abbrev d_Shelf_root : DefI := defI "Shelf.root" (.none) (clsSt (topSt 18) 4)
noncomputable abbrev d_Shelf_told : DefI := defI "Shelf.told" (.none) (clsSt (topSt 18) 5)
noncomputable abbrev d_Piece_init__ : DefI := defI "Piece.__init__" (.none) (clsSt (topSt 29) 0)
noncomputable abbrev d_Piece_told : DefI := defI "Piece.told" (.none) (clsSt (topSt 29) 1)
noncomputable abbrev d_Walk_init__ : DefI := defI "Walk.__init__" (.none) (clsSt (topSt 30) 0)

noncomputable def keepL : List Nat := [36, 180, 183, 223, 226, 254, 265, 272, 277, 292, 299, 306, 341, 348, 355, 360, 363, 373, 380, 387, 395, 409, 416, 419, 437, 440, 451, 458, 463, 470, 475, 482, 489, 496, 503, 510, 517, 524, 529, 534, 539]
noncomputable def fnL : List Nat := [36, 180, 223, 292, 299, 306, 341, 348, 355, 360, 409, 416, 437]
noncomputable def ownL : List (Nat × Str) := [(226, "head"), (226, "octets"), (183, "text"), (419, "number"), (419, "generation"), (419, "begun"), (419, "end"), (419, "value"), (440, "pieces"), (440, "trailers"), (363, "table"), (363, "trailer")]
noncomputable def isTl : List (Value × Value) := [(.type "int", .type "int"), (.type "dict", .type "dict"), (.ref 226, .ref 226), (.ref 183, .ref 183), (.type "list", .type "list")]
noncomputable def isFl : List (Value × Value) := [(.type "int", .type "bool"), (.type "int", .ref 155), (.type "int", .ref 183), (.type "int", .ref 205), (.type "int", .type "list"), (.type "int", .type "dict"), (.type "int", .ref 226), (.type "int", .ref 254), (.type "dict", .type "bool"), (.type "dict", .type "int"), (.type "dict", .ref 155), (.type "dict", .ref 183), (.type "dict", .ref 205), (.type "dict", .type "list"), (.type "dict", .ref 226), (.type "dict", .ref 254), (.ref 226, .type "bool"), (.ref 226, .type "int"), (.ref 226, .ref 155), (.ref 226, .ref 183), (.ref 226, .ref 205), (.ref 226, .type "list"), (.ref 226, .type "dict"), (.ref 226, .ref 254), (.ref 183, .type "bool"), (.ref 183, .type "int"), (.ref 183, .ref 155), (.ref 183, .ref 205), (.ref 183, .type "list"), (.ref 183, .type "dict"), (.ref 183, .ref 226), (.ref 183, .ref 254), (.type "NoneType", .type "bool"), (.type "NoneType", .type "int"), (.type "NoneType", .ref 155), (.type "NoneType", .ref 183), (.type "NoneType", .ref 205), (.type "NoneType", .type "list"), (.type "NoneType", .type "dict"), (.type "NoneType", .ref 226), (.type "NoneType", .ref 254), (.type "list", .type "bool"), (.type "list", .type "int"), (.type "list", .ref 155), (.type "list", .ref 183), (.type "list", .ref 205), (.type "list", .type "dict"), (.type "list", .ref 226), (.type "list", .ref 254)]
def isSN (x : Option (Option Value)) : Bool := match x with | some none => true | _ => false
def isSet (x : Option (Option Value)) : Bool := match x with | some (some (.builtin b)) => b == "object.__setattr__" | _ => false
def eqk : Value → Value → Bool
  | .type s, .type t => s == t
  | .ref a, .ref b => a == b
  | _, _ => false
def isIn (x y : Value) (l : List (Value × Value)) : Bool := l.any fun p => eqk p.1 x && eqk p.2 y
noncomputable def ownIn (C : Addr) (n : Str) : Bool := ownL.any fun p => p.1 == C && p.2 == n
theorem eqk_eq {x y : Value} (h : eqk x y = true) : x = y := by
  unfold eqk at h
  split at h
  · rw [eq_of_beq h]
  · rw [eq_of_beq h]
  · cases h
theorem isSN_eq {x : Option (Option Value)} (h : isSN x = true) : x = some none := by
  unfold isSN at h
  split at h
  · rfl
  · cases h
theorem isSet_eq {x : Option (Option Value)} (h : isSet x = true) : x = some (some (.builtin "object.__setattr__")) := by
  unfold isSet at h
  split at h
  · rw [eq_of_beq h]
  · cases h

structure KF (K : Frag) : Prop where
  keep : (keepL.all fun a => keepIn K (.ref a)) = true
  fns : (fnL.all fun a => isFn K (.ref a)) = true
  isT : (isTl.all fun p => kitOne K p.1 p.2 == some true) = true
  isF : (isFl.all fun p => kitOne K p.1 p.2 == some false) = true
  own : (ownL.all fun p => plainGet K p.1 p.2 && isSN (findIn K (.ref p.1) p.2) && isSN (takerIn K p.1 p.2) && hasDictIn K p.1 && isSet (findIn K (.ref p.1) "__setattr__") && plainOver K p.1) = true
  g_kind_of : nsIn K mainGlobals "kind_of" = some (some (.ref 265))
  g_told_plain : nsIn K mainGlobals "told_plain" = some (some (.ref 272))
  g_told : nsIn K mainGlobals "told" = some (some (.ref 277))
  g_trailer_of : nsIn K mainGlobals "trailer_of" = some (some (.ref 373))
  g_is_cross_stream : nsIn K mainGlobals "is_cross_stream" = some (some (.ref 380))
  g_is_object_stream : nsIn K mainGlobals "is_object_stream" = some (some (.ref 387))
  g_drop_file_streams : nsIn K mainGlobals "drop_file_streams" = some (some (.ref 395))
  g_table_of : nsIn K mainGlobals "table_of" = some (some (.ref 451))
  g_is_of_type : nsIn K mainGlobals "is_of_type" = some (some (.ref 458))
  g_packed_pieces : nsIn K mainGlobals "packed_pieces" = some (some (.ref 463))
  g_all_pieces : nsIn K mainGlobals "all_pieces" = some (some (.ref 470))
  g_trailers_of : nsIn K mainGlobals "trailers_of" = some (some (.ref 475))
  g_joined : nsIn K mainGlobals "joined" = some (some (.ref 482))
  g_last_catalog : nsIn K mainGlobals "last_catalog" = some (some (.ref 489))
  g_shelf_from : nsIn K mainGlobals "shelf_from" = some (some (.ref 496))
  g_true_length : nsIn K mainGlobals "true_length" = some (some (.ref 503))
  g_with_true_lengths : nsIn K mainGlobals "with_true_lengths" = some (some (.ref 510))
  g_mended_by : nsIn K mainGlobals "mended_by" = some (some (.ref 517))
  g_law_draw : nsIn K mainGlobals "_law_draw" = some (some (.ref 524))
  g_law_read : nsIn K mainGlobals "_law_read" = some (some (.ref 529))
  g_law_value : nsIn K mainGlobals "_law_value" = some (some (.ref 534))
  g_law : nsIn K mainGlobals "law" = some (some (.ref 539))
  g_told_objects : nsIn K mainGlobals "told_objects" = some (some (.ref 277))
  g_PaperError : nsIn K mainGlobals "PaperError" = some (some (.ref 46))
  g_CrossFault : nsIn K mainGlobals "CrossFault" = some (some (.ref 59))
  g_Name : nsIn K mainGlobals "Name" = some (some (.ref 183))
  g_String : nsIn K mainGlobals "String" = some (some (.ref 205))
  g_Stream : nsIn K mainGlobals "Stream" = some (some (.ref 226))
  g_Reference : nsIn K mainGlobals "Reference" = some (some (.ref 254))
  g_Lookup : nsIn K mainGlobals "Lookup" = some (some (.ref 309))
  g_Shelf : nsIn K mainGlobals "Shelf" = some (some (.ref 363))
  g_Piece : nsIn K mainGlobals "Piece" = some (some (.ref 419))
  g_Walk : nsIn K mainGlobals "Walk" = some (some (.ref 440))
  g_Decimal : nsIn K mainGlobals "Decimal" = some (some (.ref 155))
  g_MOST_HOPS : nsIn K mainGlobals "MOST_HOPS" = some (some (.int 30 377))
  g_OWN_KEYS : nsIn K mainGlobals "OWN_KEYS" = some (some (.ref 366))
  g_OF_THE_FILE : nsIn K mainGlobals "OF_THE_FILE" = some (some (.ref 388))
  b_len : nsIn K mainGlobals "len" = some none
  b_list : nsIn K mainGlobals "list" = some none
  b_dict : nsIn K mainGlobals "dict" = some none
  b_bytes : nsIn K mainGlobals "bytes" = some none
  b_tuple : nsIn K mainGlobals "tuple" = some none
  b_sorted : nsIn K mainGlobals "sorted" = some none
  b_reversed : nsIn K mainGlobals "reversed" = some none
  b_range : nsIn K mainGlobals "range" = some none
  b_isinstance : nsIn K mainGlobals "isinstance" = some none
  b_sum : nsIn K mainGlobals "sum" = some none
  b_int : nsIn K mainGlobals "int" = some none
  b_bool : nsIn K mainGlobals "bool" = some none
  b_Exception : nsIn K mainGlobals "Exception" = some none
  f_kind_of : fnView K 265 = some (d_kind_of, .ref 264)
  f_told_plain : fnView K 272 = some (d_told_plain, .ref 271)
  f_told : fnView K 277 = some (d_told, .ref 276)
  f_trailer_of : fnView K 373 = some (d_trailer_of, .ref 372)
  f_is_cross_stream : fnView K 380 = some (d_is_cross_stream, .ref 379)
  f_is_object_stream : fnView K 387 = some (d_is_object_stream, .ref 386)
  f_drop_file_streams : fnView K 395 = some (d_drop_file_streams, .ref 394)
  f_table_of : fnView K 451 = some (d_table_of, .ref 450)
  f_is_of_type : fnView K 458 = some (d_is_of_type, .ref 457)
  f_packed_pieces : fnView K 463 = some (d_packed_pieces, .ref 462)
  f_all_pieces : fnView K 470 = some (d_all_pieces, .ref 469)
  f_trailers_of : fnView K 475 = some (d_trailers_of, .ref 474)
  f_joined : fnView K 482 = some (d_joined, .ref 481)
  f_last_catalog : fnView K 489 = some (d_last_catalog, .ref 488)
  f_shelf_from : fnView K 496 = some (d_shelf_from, .ref 495)
  f_true_length : fnView K 503 = some (d_true_length, .ref 502)
  f_with_true_lengths : fnView K 510 = some (d_with_true_lengths, .ref 509)
  f_mended_by : fnView K 517 = some (d_mended_by, .ref 516)
  f_law_draw : fnView K 524 = some (d_law_draw, .ref 523)
  f_law_read : fnView K 529 = some (d_law_read, .ref 528)
  f_law_value : fnView K 534 = some (d_law_value, .ref 533)
  f_law : fnView K 539 = some (d_law, .ref 538)
  f_PaperError_init__ : fnView K 36 = some (d_PaperError_init__, .ref 35)
  f_Name_init__ : fnView K 180 = some (d_Name_init__, .ref 179)
  f_Stream_init__ : fnView K 223 = some (d_Stream_init__, .ref 222)
  f_Lookup_init__ : fnView K 292 = some (d_Lookup_init__, .ref 291)
  f_Lookup_fetch : fnView K 299 = some (d_Lookup_fetch, .ref 298)
  f_Lookup_get : fnView K 306 = some (d_Lookup_get, .ref 305)
  f_Shelf_drop : fnView K 341 = some (d_Shelf_drop, .ref 340)
  f_Shelf_numbers : fnView K 348 = some (d_Shelf_numbers, .ref 347)
  f_Shelf_root : fnView K 355 = some (d_Shelf_root, .ref 354)
  f_Shelf_told : fnView K 360 = some (d_Shelf_told, .ref 359)
  f_Piece_init__ : fnView K 409 = some (d_Piece_init__, .ref 408)
  f_Piece_told : fnView K 416 = some (d_Piece_told, .ref 415)
  f_Walk_init__ : fnView K 437 = some (d_Walk_init__, .ref 436)
  mk_Name : makesIn K 183 = true
  mk_Stream : makesIn K 226 = true
  mk_Shelf : makesIn K 363 = true
  mk_Piece : makesIn K 419 = true
  mk_Walk : makesIn K 440 = true
  mk_Reference : makesIn K 254 = true
  in_Name : findIn K (.ref 183) "__init__" = some (some (.ref 180))
  in_Stream : findIn K (.ref 226) "__init__" = some (some (.ref 223))
  in_Shelf : findIn K (.ref 363) "__init__" = some (some (.ref 292))
  in_Piece : findIn K (.ref 419) "__init__" = some (some (.ref 409))
  in_Walk : findIn K (.ref 440) "__init__" = some (some (.ref 437))
  pm_Shelf_get : plainGet K 363 "get" = true
  fm_Shelf_get : findIn K (.ref 363) "get" = some (some (.ref 306))
  pm_Shelf_fetch : plainGet K 363 "fetch" = true
  fm_Shelf_fetch : findIn K (.ref 363) "fetch" = some (some (.ref 299))
  pm_Shelf_drop : plainGet K 363 "drop" = true
  fm_Shelf_drop : findIn K (.ref 363) "drop" = some (some (.ref 341))
  pm_Shelf_numbers : plainGet K 363 "numbers" = true
  fm_Shelf_numbers : findIn K (.ref 363) "numbers" = some (some (.ref 348))
  pm_Shelf_root : plainGet K 363 "root" = true
  fm_Shelf_root : findIn K (.ref 363) "root" = some (some (.ref 355))
  pm_Shelf_told : plainGet K 363 "told" = true
  fm_Shelf_told : findIn K (.ref 363) "told" = some (some (.ref 360))
  pm_Piece_told : plainGet K 419 "told" = true
  fm_Piece_told : findIn K (.ref 419) "told" = some (some (.ref 416))
  q1_Stream : plainGet K 226 "__class__" = true
  q2_Stream : findIn K (.ref 226) "__class__" = some (some (.builtin "object.__class__"))
  q3_Stream : mroIn K 226 (.type "object") = some true
  q1_Name : plainGet K 183 "__class__" = true
  q2_Name : findIn K (.ref 183) "__class__" = some (some (.builtin "object.__class__"))
  q3_Name : mroIn K 183 (.type "object") = some true
  q4 : specialIn K (.builtin "object.__class__") "__get__" = some (some (.builtin "getset_descriptor.__get__"))
  e_Name : findIn K (.ref 183) "__eq__" = some (some (.builtin "object.__eq__"))
  q5 : takesIn K (.builtin "object.__class__") = some true
  o_285 : K.lookup 285 = some ⟨.type "tuple", none, .seq #[.none, .none] 0, #[]⟩
  o_29 : ∃ tk, K.lookup 29 = some ⟨.type "tuple", none, .seq #[.int (-1) tk] 0, #[]⟩
  o_366 : K.lookup 366 = some ⟨.type "tuple", none, .seq #[.str "Length" 647, .str "Filter" 648, .str "DecodeParms" 649, .str "W" 650, .str "Index" 651, .str "Type" 652] 0, #[]⟩
  o_388 : K.lookup 388 = some ⟨.type "tuple", none, .seq #[.str "Size" 685, .str "Prev" 686, .str "XRefStm" 687] 0, #[]⟩

theorem KF.keeps {K : Frag} {a : Nat} (k : KF K) (h : keepL.elem a = true) : keepIn K (.ref a) = true := List.all_eq_true.mp k.keep a (List.elem_iff.mp h)
theorem KF.fn {K : Frag} {a : Nat} (k : KF K) (h : fnL.elem a = true) : isFn K (.ref a) = true := List.all_eq_true.mp k.fns a (List.elem_iff.mp h)
theorem isIn_mem {x y : Value} {l : List (Value × Value)} (h : isIn x y l = true) : (x, y) ∈ l := by
  obtain ⟨p, hp, e⟩ := List.any_eq_true.mp h
  rw [Bool.and_eq_true] at e
  have e1 := eqk_eq e.1
  have e2 := eqk_eq e.2
  obtain ⟨a, b⟩ := p
  dsimp only at e1 e2
  subst e1 e2
  exact hp
theorem KF.kitT {K : Frag} {x y : Value} (k : KF K) (h : isIn x y isTl = true) : kitOne K x y = some true := eq_of_beq (List.all_eq_true.mp k.isT (x, y) (isIn_mem h))
theorem KF.kitF {K : Frag} {x y : Value} (k : KF K) (h : isIn x y isFl = true) : kitOne K x y = some false := eq_of_beq (List.all_eq_true.mp k.isF (x, y) (isIn_mem h))
theorem KF.owns {K : Frag} {C : Addr} {n : Str} (k : KF K) (h : ownIn C n = true) : GetOk K C n ∧ SetOk K C n := by
  obtain ⟨⟨a, b⟩, hp, e⟩ := List.any_eq_true.mp h
  rw [Bool.and_eq_true] at e
  have e1 : a = C := eq_of_beq e.1
  have e2 : b = n := eq_of_beq e.2
  subst e1 e2
  have w := List.all_eq_true.mp k.own _ hp
  simp only [Bool.and_eq_true] at w
  obtain ⟨⟨⟨⟨⟨h1, h2⟩, h3⟩, h4⟩, h5⟩, h6⟩ := w
  exact ⟨⟨h1, h4, none, isSN_eq h2, rfl⟩, ⟨isSet_eq h5, h6, isSN_eq h3, h4⟩⟩
theorem KF.get {K : Frag} {C : Addr} {n : Str} (k : KF K) (h : ownIn C n = true) : GetOk K C n := (k.owns h).1
theorem KF.set {K : Frag} {C : Addr} {n : Str} (k : KF K) (h : ownIn C n = true) : SetOk K C n := (k.owns h).2



section
variable {c : Wc} {f : Fc} {A : Around} {α β : Type} {m : Loc} {M I : Led} {E : Value → Shared → Prop} {gr : Heap}

/-- a rule that draws tokens and no more -/
theorem Te.toks {t : Sem α} {Q : α → Led → Led → Prop} (h : ∀ {g : Heap} (s : Shared) (R : α → Shared → Prop), Live0 c f g m M I s.heap → (∀ v tk, Q v M I → R v { s with toks := tk }) → wpAny (model PW c.w) A t R E s) : Te c f A m M I t Q E :=
  .mk fun s ⟨g, L⟩ => h s _ L fun v tk q => ⟨s.heap, tk, M, I, rfl, ⟨g, L⟩, q⟩

theorem Live0.g {h : Heap} (L : Live0 c f gr m M I h) {a : Addr} {o : Obj} (e : (a, o) ∈ M ++ I) : h.get? a = some o := L.N.get e
theorem Live.g {h : Heap} (L : Live c f m M I h) {a : Addr} {o : Obj} (e : (a, o) ∈ M ++ I) : h.get? a = some o := let ⟨g, L⟩ := L; L.g e
def LO (vs : List Value) (o : Obj) : Prop := o.cls = .type "list" ∧ ∃ n, o.data = .seq vs.toArray n
def TO (vs : List Value) (o : Obj) : Prop := o.cls = .type "tuple" ∧ ∃ n, o.data = .seq vs.toArray n
theorem Live0.isList {h : Heap} (L : Live0 c f gr m M I h) {a : Addr} {o : Obj} {vs : List Value} (e : (a, o) ∈ M ++ I) (x : LO vs o) : h.IsList a vs.toArray := ⟨o, L.g e, x.1, x.2⟩
theorem Live.isList {h : Heap} (L : Live c f m M I h) {a : Addr} {o : Obj} {vs : List Value} (e : (a, o) ∈ M ++ I) (x : LO vs o) : h.IsList a vs.toArray := ⟨o, L.g e, x.1, x.2⟩
theorem Live0.isTup {h : Heap} (L : Live0 c f gr m M I h) {a : Addr} {o : Obj} {vs : List Value} (e : (a, o) ∈ M ++ I) (x : TO vs o) : IsTup h a vs.toArray := ⟨o, L.g e, x.1, x.2⟩
theorem Live.isTup {h : Heap} (L : Live c f m M I h) {a : Addr} {o : Obj} {vs : List Value} (e : (a, o) ∈ M ++ I) (x : TO vs o) : IsTup h a vs.toArray := ⟨o, L.g e, x.1, x.2⟩
theorem LO.of (vs : List Value) (n : Nat) : LO vs (listOf vs.toArray n) := ⟨rfl, n, rfl⟩
theorem IsList.lo {h : Heap} {a : Addr} {vs : List Value} (x : h.IsList a vs.toArray) : ∃ o, h.get? a = some o ∧ LO vs o := let ⟨o, h1, h2, h3⟩ := x; ⟨o, h1, h2, h3⟩

/-! ints -/
theorem o_add {a b : Int} {t u : Tok} {Q : Value → Led → Led → Prop} (h : ∀ tk, Q (.int (a + b) tk) M I) : Te c f A m M I (binaryOp .Add (.int a t) (.int b u)) Q E := Te.toks fun s R L r => add_int (r _ _ (h _))
theorem o_mul {a b : Int} {t u : Tok} {Q : Value → Led → Led → Prop} (hm : IntMulOk a b) (h : ∀ tk, Q (.int (a * b) tk) M I) : Te c f A m M I (binaryOp .Mult (.int a t) (.int b u)) Q E := Te.toks fun s R L r => mul_int (r _ _ (h _)) hm
theorem o_mod {a b : Int} {t u : Tok} {Q : Value → Led → Led → Prop} (hb : b ≠ 0) (h : ∀ tk, Q (.int (a.fmod b) tk) M I) : Te c f A m M I (binaryOp .Mod (.int a t) (.int b u)) Q E := Te.toks fun s R L r => mod_int hb (r _ _ (h _))
theorem o_fdiv {a b : Int} {t u : Tok} {Q : Value → Led → Led → Prop} (hb : b ≠ 0) (hs : b.natAbs < 1073741824) (h : ∀ tk, Q (.int (a.fdiv b) tk) M I) : Te c f A m M I (binaryOp .FloorDiv (.int a t) (.int b u)) Q E :=
  Te.toks fun s R L r => floordiv_int hb (r _ _ (h _)) (.inl (PyProof.noPylong_small hs))
theorem c_lt {a b : Int} {t u : Tok} {Q : Value → Led → Led → Prop} (h : Q (.bool (decide (a < b))) M I) : Te c f A m M I (compareOp .Lt (.int a t) (.int b u)) Q E := Te.here (fun s R L r => lt_int (r s.toks)) h
theorem c_gt {a b : Int} {t u : Tok} {Q : Value → Led → Led → Prop} (h : Q (.bool (decide (b < a))) M I) : Te c f A m M I (compareOp .Gt (.int a t) (.int b u)) Q E := Te.here (fun s R L r => gt_int (r s.toks)) h
theorem c_eq {a b : Int} {t u : Tok} {Q : Value → Led → Led → Prop} (h : Q (.bool (a == b)) M I) : Te c f A m M I (compareOp .Eq (.int a t) (.int b u)) Q E := Te.here (fun s R L r => eq_int (r s.toks)) h
theorem c_ne {a b : Int} {t u : Tok} {Q : Value → Led → Led → Prop} (h : Q (.bool (a != b)) M I) : Te c f A m M I (compareOp .NotEq (.int a t) (.int b u)) Q E := Te.here (fun s R L r => ne_int (r s.toks)) h
theorem b_bool {b : Bool} {Q : Bool → Led → Led → Prop} (h : Q b M I) : Te c f A m M I (truthy (.bool b)) Q E := Te.here (fun s R L r => wpAny_truthy_bool (r s.toks)) h

/-! lists -/
theorem i_list {value slice : Expr} {l : Addr} {o : Obj} {vs : List Value} {k : Int} {u : Tok} {v : Value} {Q : Value → Led → Led → Prop} (hm : (l, o) ∈ M ++ I) (hl : LO vs o) (h0 : 0 ≤ k) (hhi : k < 2 ^ 63) (hx : vs[k.toNat]? = some v)
    (hs : subscripted slice false (.ref l) (.int k u) = operate [.ref l, .int k u] (getItem (.ref l) (.int k u))) (h : Q v M I) : Te c f A m M I (subscriptTail value slice (.ref l) (.int k u)) Q E :=
  Te.here (fun s R L r => tail_any (L.isList hm hl).typeIs slot_list_getitem.lookup (wpAny_getItem_list (L.isList hm hl) h0 hhi (by simpa using hx) (r s.toks)) hs) h
theorem x_list {l : Addr} {o : Obj} {vs : List Value} {k : Int} {u : Tok} {v : Value} {M' : Obj → Led} {Q : Unit → Led → Led → Prop} (U : ∀ o', Up l o o' M (M' o')) (hl : LO vs o) (h0 : 0 ≤ k) (hhi : k < 2 ^ 63) (hk : k < vs.length)
    (h : ∀ o', LO (vs.set k.toNat v) o' → Q () (M' o') I) : Te c f A m M I (setItem (.ref l) (.int k u) v) Q E := .mk fun s L =>
  wpAny_setItem_list (L.isList (List.mem_append_left _ (U o).mem) hl) h0 hhi (by simpa using hk) fun h' hl' hs' => by
    have e : vs.toArray.setIfInBounds k.toNat v = (vs.set k.toNat v).toArray := by simp
    rw [e] at hl'
    obtain ⟨o', ho', hx⟩ := IsList.lo hl'
    exact ⟨h', _, M' o', I, rfl, L.up (U o') hs' ho', h o' hx⟩
theorem l_len {l : Addr} {o : Obj} {vs : List Value} {Q : Value → Led → Led → Prop} (hm : (l, o) ∈ M ++ I) (hl : LO vs o) (hfit : (vs.length : Int) < 2 ^ 63) (h : ∀ tk, Q (.int vs.length tk) M I) : Te c f A m M I (call (.builtin "len") [.ref l]) Q E :=
  Te.toks fun s R L r => call_len_list (L.isList hm hl) (by simpa using hfit) (r _ _ (by simpa using h _))
theorem l_append {l : Addr} {o : Obj} {vs : List Value} {x : Value} {M' : Obj → Led} {Q : Value → Led → Led → Prop} (U : ∀ o', Up l o o' M (M' o')) (hl : LO vs o) (hz : vs.length ≤ sizeLine) (h : ∀ o', LO (vs ++ [x]) o' → Q .none (M' o') I) :
    Te c f A m M I (call (.builtin "list.append") [.ref l, x]) Q E := .mk fun s L =>
  wpAny_list_append (L.isList (List.mem_append_left _ (U o).mem) hl) (fun h' hl' hs' => by
    have e : vs.toArray.push x = (vs ++ [x]).toArray := by simp
    rw [e] at hl'
    obtain ⟨o', ho', hx⟩ := IsList.lo hl'
    exact ⟨h', _, M' o', I, rfl, L.up (U o') hs' ho', h o' hx⟩) (by simpa using hz)
theorem n_list {vs : List Value} {Q : Value → Led → Led → Prop} (hz : vs.length ≤ sizeLine) (h : ∀ a o, LO vs o → Q (.ref a) ((a, o) :: M) I) : Te c f A m M I (newList vs) Q E := .mk fun s ⟨g, L⟩ =>
  newList_N L.F L.N (fun h' F' N' => ⟨_, _, _, I, rfl, ⟨g, ⟨L.B, F', L.X, N', L.T, (L.pushM (listOf vs.toArray 0)).ap, L.kd⟩⟩, h _ _ (LO.of vs 0)⟩) hz
theorem n_tuple {vs : List Value} {Q : Value → Led → Led → Prop} (hz : vs.length ≤ sizeLine) (h : ∀ a o, TO vs o → Q (.ref a) M ((a, o) :: I)) : Te c f A m M I (newTuple vs) Q E := .mk fun s ⟨g, L⟩ =>
  newTuple_N L.F L.N (fun h' F' N' => ⟨_, _, M, _, rfl, ⟨g, ⟨L.B, F', L.X, fun p hp => N' p (by
    simp only [List.mem_append, List.mem_cons] at hp ⊢
    rcases hp with h | h | h
    · exact .inr (.inl h)
    · exact .inl h
    · exact .inr (.inr h)), L.T, (L.push { cls := .type "tuple", data := .seq vs.toArray }).ap, L.kd⟩⟩, h _ _ ⟨rfl, 0, rfl⟩⟩) hz
theorem e_list {env : Env} {elts : List Expr} {pos : Pos} {Q : Value → Led → Led → Prop} (h : Te c f A m M I (spliced (backTo pos (starEach elts env))) (kList c f A m E Q) E) : Te c f A m M I (eval (.List elts pos) env) Q E :=
  .mk fun s L => List_ (h.step L fun v h1 t1 M1 I1 L1 q => q.run { s with heap := h1, toks := t1 } L1)
theorem e_tuple {env : Env} {elts : List Expr} {k : Nat} {pos : Pos} {Q : Value → Led → Led → Prop} (h : Te c f A m M I (spliced (backTo pos (starEach elts env))) (kTup c f A m E Q) E) : Te c f A m M I (eval (.Tuple elts k pos) env) Q E :=
  .mk fun s L => Tuple_ (h.step L fun v h1 t1 M1 I1 L1 q => q.run { s with heap := h1, toks := t1 } L1)
end


section
variable {c : Wc} {f : Fc} {A : Around} {m : Loc} {M I : Led} {E : Value → Shared → Prop} {pos : Pos} {env : Env} {Q : Value → Led → Led → Prop}
theorem after_next {rest : List Stmt} {Q : Flow → Loc → Led → Led → Prop} (h : Ts c f A m M I (execs rest f.env) Q E) : After c f A rest Q E .next m M I := h
theorem after_ret {rest : List Stmt} {Q : Flow → Loc → Led → Led → Prop} {v : Value} (h : Q (.ret v) m M I) : After c f A rest Q E (.ret v) m M I := h
theorem Up.mem' {d : Addr} {o o' : Obj} : ∀ {l l' : Led}, Up d o o' l l' → (d, o') ∈ l'
  | _, _, .head => .head _
  | _, _, .tail u => .tail _ u.mem'
theorem cw_B {id : String} {e : Expr} {rest : List Expr} (h : Te c f A m M I (spliced (backTo pos (starEach (e :: rest) env))) (kCall0 c f A m E (.builtin id) Q) E)
    (he : starEach (e :: rest) env = (false, eval e env) :: starEach rest env) (hp : (backTo pos (starEach rest env)).any (·.1) = false) : Te c f A m M I (callWith pos (.builtin id) [] (backTo pos (starEach (e :: rest) env)) []) Q E := cw_M rfl h he hp
theorem cw_B1 {id : String} {x : Value} {e : Expr} {rest : List Expr} (h : Te c f A m M I (spliced (backTo pos (starEach (e :: rest) env))) (kCall1 c f A m E (.builtin id) x Q) E)
    (he : starEach (e :: rest) env = (false, eval e env) :: starEach rest env) (hp : (backTo pos (starEach rest env)).any (·.1) = false) : Te c f A m M I (callWith pos (.builtin id) [x] (backTo pos (starEach (e :: rest) env)) []) Q E := cw_M rfl h he hp
theorem cw_T {id : String} {e : Expr} {rest : List Expr} (h : Te c f A m M I (spliced (backTo pos (starEach (e :: rest) env))) (kCall0 c f A m E (.type id) Q) E)
    (he : starEach (e :: rest) env = (false, eval e env) :: starEach rest env) (hp : (backTo pos (starEach rest env)).any (·.1) = false) : Te c f A m M I (callWith pos (.type id) [] (backTo pos (starEach (e :: rest) env)) []) Q E := cw_M rfl h he hp
theorem cw_F {a : Addr} {e : Expr} {rest : List Expr} (hk : keepIn c.K (.ref a) = true) (h : Te c f A m M I (spliced (backTo pos (starEach (e :: rest) env))) (kCall0 c f A m E (.ref a) Q) E)
    (he : starEach (e :: rest) env = (false, eval e env) :: starEach rest env) (hp : (backTo pos (starEach rest env)).any (·.1) = false) : Te c f A m M I (callWith pos (.ref a) [] (backTo pos (starEach (e :: rest) env)) []) Q E := cw_K hk h he hp
theorem cw_F1 {a : Addr} {x : Value} {e : Expr} {rest : List Expr} (hk : keepIn c.K (.ref a) = true) (h : Te c f A m M I (spliced (backTo pos (starEach (e :: rest) env))) (kCall1 c f A m E (.ref a) x Q) E)
    (he : starEach (e :: rest) env = (false, eval e env) :: starEach rest env) (hp : (backTo pos (starEach rest env)).any (·.1) = false) : Te c f A m M I (callWith pos (.ref a) [x] (backTo pos (starEach (e :: rest) env)) []) Q E := cw_K hk h he hp
theorem cw_F0 {a : Addr} (hk : keepIn c.K (.ref a) = true) (h : Te c f A m M I (call (.ref a) []) Q E) : Te c f A m M I (callWith pos (.ref a) [] (backTo pos (starEach [] env)) []) Q E := cw_K0 hk h
theorem cw_F01 {a : Addr} {x : Value} (hk : keepIn c.K (.ref a) = true) (h : Te c f A m M I (call (.ref a) [x]) Q E) : Te c f A m M I (callWith pos (.ref a) [x] (backTo pos (starEach [] env)) []) Q E := cw_K0 hk h
theorem cw_B0 {id : String} (h : Te c f A m M I (call (.builtin id) []) Q E) : Te c f A m M I (callWith pos (.builtin id) [] (backTo pos (starEach [] env)) []) Q E := cw_M0 rfl h
theorem e_mcallX {o : Expr} {name : Str} {apos pos : Pos} {args : List Expr} {Q : Value → Led → Led → Prop}
    (h : Te c f A m M I (eval o env) (kMeth c f A m E name (do return (← importBound o env).getD true) pos args env Q) E)
    (he : eval (.Call (.Attribute o name apos) args [] pos) env = (do
      let ov ← eval o env
      standAt apos.atName
      let (g, first) ← holding [ov] (getMethod ov name (do return (← importBound o env).getD true))
      callWith pos g first (backTo pos (starEach args env)) [])) : Te c f A m M I (eval (.Call (.Attribute o name apos) args [] pos) env) Q E := e_mcall h he
theorem ite_nt {X Y : Prop} (h : Y) : if (!true) = true then X else Y := by rw [if_neg (by decide)]; exact h
theorem ite_nf {X Y : Prop} (h : X) : if (!false) = true then X else Y := by rw [if_pos (by decide)]; exact h
theorem g_cmp {op : CmpOp} {a b : Value} (h : Te c f A m M I (compareOp op a b) Q E) : Te c f A m M I (compareOp op a b) Q E := h
theorem g_call {g : Value} {vs : List Value} (h : Te c f A m M I (call g vs) Q E) : Te c f A m M I (call g vs) Q E := h

theorem nm_kind_of (k : KF c.K) (hg : env.globals = mainGlobals) (hk : env.scope.kind = .function) (hx : env.kindOf "kind_of" = some .globalImplicit) (h : Q (.ref 265) M I) : Te c f A m M I (eval (.Name "kind_of" pos) env) Q E := e_global k.g_kind_of hg hk hx (by decide +kernel) h
theorem nm_told_plain (k : KF c.K) (hg : env.globals = mainGlobals) (hk : env.scope.kind = .function) (hx : env.kindOf "told_plain" = some .globalImplicit) (h : Q (.ref 272) M I) : Te c f A m M I (eval (.Name "told_plain" pos) env) Q E := e_global k.g_told_plain hg hk hx (by decide +kernel) h
theorem nm_told (k : KF c.K) (hg : env.globals = mainGlobals) (hk : env.scope.kind = .function) (hx : env.kindOf "told" = some .globalImplicit) (h : Q (.ref 277) M I) : Te c f A m M I (eval (.Name "told" pos) env) Q E := e_global k.g_told hg hk hx (by decide +kernel) h
theorem nm_trailer_of (k : KF c.K) (hg : env.globals = mainGlobals) (hk : env.scope.kind = .function) (hx : env.kindOf "trailer_of" = some .globalImplicit) (h : Q (.ref 373) M I) : Te c f A m M I (eval (.Name "trailer_of" pos) env) Q E := e_global k.g_trailer_of hg hk hx (by decide +kernel) h
theorem nm_is_cross_stream (k : KF c.K) (hg : env.globals = mainGlobals) (hk : env.scope.kind = .function) (hx : env.kindOf "is_cross_stream" = some .globalImplicit) (h : Q (.ref 380) M I) : Te c f A m M I (eval (.Name "is_cross_stream" pos) env) Q E := e_global k.g_is_cross_stream hg hk hx (by decide +kernel) h
theorem nm_is_object_stream (k : KF c.K) (hg : env.globals = mainGlobals) (hk : env.scope.kind = .function) (hx : env.kindOf "is_object_stream" = some .globalImplicit) (h : Q (.ref 387) M I) : Te c f A m M I (eval (.Name "is_object_stream" pos) env) Q E := e_global k.g_is_object_stream hg hk hx (by decide +kernel) h
theorem nm_drop_file_streams (k : KF c.K) (hg : env.globals = mainGlobals) (hk : env.scope.kind = .function) (hx : env.kindOf "drop_file_streams" = some .globalImplicit) (h : Q (.ref 395) M I) : Te c f A m M I (eval (.Name "drop_file_streams" pos) env) Q E := e_global k.g_drop_file_streams hg hk hx (by decide +kernel) h
theorem nm_table_of (k : KF c.K) (hg : env.globals = mainGlobals) (hk : env.scope.kind = .function) (hx : env.kindOf "table_of" = some .globalImplicit) (h : Q (.ref 451) M I) : Te c f A m M I (eval (.Name "table_of" pos) env) Q E := e_global k.g_table_of hg hk hx (by decide +kernel) h
theorem nm_is_of_type (k : KF c.K) (hg : env.globals = mainGlobals) (hk : env.scope.kind = .function) (hx : env.kindOf "is_of_type" = some .globalImplicit) (h : Q (.ref 458) M I) : Te c f A m M I (eval (.Name "is_of_type" pos) env) Q E := e_global k.g_is_of_type hg hk hx (by decide +kernel) h
theorem nm_packed_pieces (k : KF c.K) (hg : env.globals = mainGlobals) (hk : env.scope.kind = .function) (hx : env.kindOf "packed_pieces" = some .globalImplicit) (h : Q (.ref 463) M I) : Te c f A m M I (eval (.Name "packed_pieces" pos) env) Q E := e_global k.g_packed_pieces hg hk hx (by decide +kernel) h
theorem nm_all_pieces (k : KF c.K) (hg : env.globals = mainGlobals) (hk : env.scope.kind = .function) (hx : env.kindOf "all_pieces" = some .globalImplicit) (h : Q (.ref 470) M I) : Te c f A m M I (eval (.Name "all_pieces" pos) env) Q E := e_global k.g_all_pieces hg hk hx (by decide +kernel) h
theorem nm_trailers_of (k : KF c.K) (hg : env.globals = mainGlobals) (hk : env.scope.kind = .function) (hx : env.kindOf "trailers_of" = some .globalImplicit) (h : Q (.ref 475) M I) : Te c f A m M I (eval (.Name "trailers_of" pos) env) Q E := e_global k.g_trailers_of hg hk hx (by decide +kernel) h
theorem nm_joined (k : KF c.K) (hg : env.globals = mainGlobals) (hk : env.scope.kind = .function) (hx : env.kindOf "joined" = some .globalImplicit) (h : Q (.ref 482) M I) : Te c f A m M I (eval (.Name "joined" pos) env) Q E := e_global k.g_joined hg hk hx (by decide +kernel) h
theorem nm_last_catalog (k : KF c.K) (hg : env.globals = mainGlobals) (hk : env.scope.kind = .function) (hx : env.kindOf "last_catalog" = some .globalImplicit) (h : Q (.ref 489) M I) : Te c f A m M I (eval (.Name "last_catalog" pos) env) Q E := e_global k.g_last_catalog hg hk hx (by decide +kernel) h
theorem nm_shelf_from (k : KF c.K) (hg : env.globals = mainGlobals) (hk : env.scope.kind = .function) (hx : env.kindOf "shelf_from" = some .globalImplicit) (h : Q (.ref 496) M I) : Te c f A m M I (eval (.Name "shelf_from" pos) env) Q E := e_global k.g_shelf_from hg hk hx (by decide +kernel) h
theorem nm_true_length (k : KF c.K) (hg : env.globals = mainGlobals) (hk : env.scope.kind = .function) (hx : env.kindOf "true_length" = some .globalImplicit) (h : Q (.ref 503) M I) : Te c f A m M I (eval (.Name "true_length" pos) env) Q E := e_global k.g_true_length hg hk hx (by decide +kernel) h
theorem nm_with_true_lengths (k : KF c.K) (hg : env.globals = mainGlobals) (hk : env.scope.kind = .function) (hx : env.kindOf "with_true_lengths" = some .globalImplicit) (h : Q (.ref 510) M I) : Te c f A m M I (eval (.Name "with_true_lengths" pos) env) Q E := e_global k.g_with_true_lengths hg hk hx (by decide +kernel) h
theorem nm_mended_by (k : KF c.K) (hg : env.globals = mainGlobals) (hk : env.scope.kind = .function) (hx : env.kindOf "mended_by" = some .globalImplicit) (h : Q (.ref 517) M I) : Te c f A m M I (eval (.Name "mended_by" pos) env) Q E := e_global k.g_mended_by hg hk hx (by decide +kernel) h
theorem nm_law_draw (k : KF c.K) (hg : env.globals = mainGlobals) (hk : env.scope.kind = .function) (hx : env.kindOf "_law_draw" = some .globalImplicit) (h : Q (.ref 524) M I) : Te c f A m M I (eval (.Name "_law_draw" pos) env) Q E := e_global k.g_law_draw hg hk hx (by decide +kernel) h
theorem nm_law_read (k : KF c.K) (hg : env.globals = mainGlobals) (hk : env.scope.kind = .function) (hx : env.kindOf "_law_read" = some .globalImplicit) (h : Q (.ref 529) M I) : Te c f A m M I (eval (.Name "_law_read" pos) env) Q E := e_global k.g_law_read hg hk hx (by decide +kernel) h
theorem nm_law_value (k : KF c.K) (hg : env.globals = mainGlobals) (hk : env.scope.kind = .function) (hx : env.kindOf "_law_value" = some .globalImplicit) (h : Q (.ref 534) M I) : Te c f A m M I (eval (.Name "_law_value" pos) env) Q E := e_global k.g_law_value hg hk hx (by decide +kernel) h
theorem nm_law (k : KF c.K) (hg : env.globals = mainGlobals) (hk : env.scope.kind = .function) (hx : env.kindOf "law" = some .globalImplicit) (h : Q (.ref 539) M I) : Te c f A m M I (eval (.Name "law" pos) env) Q E := e_global k.g_law hg hk hx (by decide +kernel) h
theorem nm_told_objects (k : KF c.K) (hg : env.globals = mainGlobals) (hk : env.scope.kind = .function) (hx : env.kindOf "told_objects" = some .globalImplicit) (h : Q (.ref 277) M I) : Te c f A m M I (eval (.Name "told_objects" pos) env) Q E := e_global k.g_told_objects hg hk hx (by decide +kernel) h
theorem nm_PaperError (k : KF c.K) (hg : env.globals = mainGlobals) (hk : env.scope.kind = .function) (hx : env.kindOf "PaperError" = some .globalImplicit) (h : Q (.ref 46) M I) : Te c f A m M I (eval (.Name "PaperError" pos) env) Q E := e_global k.g_PaperError hg hk hx (by decide +kernel) h
theorem nm_CrossFault (k : KF c.K) (hg : env.globals = mainGlobals) (hk : env.scope.kind = .function) (hx : env.kindOf "CrossFault" = some .globalImplicit) (h : Q (.ref 59) M I) : Te c f A m M I (eval (.Name "CrossFault" pos) env) Q E := e_global k.g_CrossFault hg hk hx (by decide +kernel) h
theorem nm_Name (k : KF c.K) (hg : env.globals = mainGlobals) (hk : env.scope.kind = .function) (hx : env.kindOf "Name" = some .globalImplicit) (h : Q (.ref 183) M I) : Te c f A m M I (eval (.Name "Name" pos) env) Q E := e_global k.g_Name hg hk hx (by decide +kernel) h
theorem nm_String (k : KF c.K) (hg : env.globals = mainGlobals) (hk : env.scope.kind = .function) (hx : env.kindOf "String" = some .globalImplicit) (h : Q (.ref 205) M I) : Te c f A m M I (eval (.Name "String" pos) env) Q E := e_global k.g_String hg hk hx (by decide +kernel) h
theorem nm_Stream (k : KF c.K) (hg : env.globals = mainGlobals) (hk : env.scope.kind = .function) (hx : env.kindOf "Stream" = some .globalImplicit) (h : Q (.ref 226) M I) : Te c f A m M I (eval (.Name "Stream" pos) env) Q E := e_global k.g_Stream hg hk hx (by decide +kernel) h
theorem nm_Reference (k : KF c.K) (hg : env.globals = mainGlobals) (hk : env.scope.kind = .function) (hx : env.kindOf "Reference" = some .globalImplicit) (h : Q (.ref 254) M I) : Te c f A m M I (eval (.Name "Reference" pos) env) Q E := e_global k.g_Reference hg hk hx (by decide +kernel) h
theorem nm_Lookup (k : KF c.K) (hg : env.globals = mainGlobals) (hk : env.scope.kind = .function) (hx : env.kindOf "Lookup" = some .globalImplicit) (h : Q (.ref 309) M I) : Te c f A m M I (eval (.Name "Lookup" pos) env) Q E := e_global k.g_Lookup hg hk hx (by decide +kernel) h
theorem nm_Shelf (k : KF c.K) (hg : env.globals = mainGlobals) (hk : env.scope.kind = .function) (hx : env.kindOf "Shelf" = some .globalImplicit) (h : Q (.ref 363) M I) : Te c f A m M I (eval (.Name "Shelf" pos) env) Q E := e_global k.g_Shelf hg hk hx (by decide +kernel) h
theorem nm_Piece (k : KF c.K) (hg : env.globals = mainGlobals) (hk : env.scope.kind = .function) (hx : env.kindOf "Piece" = some .globalImplicit) (h : Q (.ref 419) M I) : Te c f A m M I (eval (.Name "Piece" pos) env) Q E := e_global k.g_Piece hg hk hx (by decide +kernel) h
theorem nm_Walk (k : KF c.K) (hg : env.globals = mainGlobals) (hk : env.scope.kind = .function) (hx : env.kindOf "Walk" = some .globalImplicit) (h : Q (.ref 440) M I) : Te c f A m M I (eval (.Name "Walk" pos) env) Q E := e_global k.g_Walk hg hk hx (by decide +kernel) h
theorem nm_Decimal (k : KF c.K) (hg : env.globals = mainGlobals) (hk : env.scope.kind = .function) (hx : env.kindOf "Decimal" = some .globalImplicit) (h : Q (.ref 155) M I) : Te c f A m M I (eval (.Name "Decimal" pos) env) Q E := e_global k.g_Decimal hg hk hx (by decide +kernel) h
theorem nm_OWN_KEYS (k : KF c.K) (hg : env.globals = mainGlobals) (hk : env.scope.kind = .function) (hx : env.kindOf "OWN_KEYS" = some .globalImplicit) (h : Q (.ref 366) M I) : Te c f A m M I (eval (.Name "OWN_KEYS" pos) env) Q E := e_global k.g_OWN_KEYS hg hk hx (by decide +kernel) h
theorem nm_OF_THE_FILE (k : KF c.K) (hg : env.globals = mainGlobals) (hk : env.scope.kind = .function) (hx : env.kindOf "OF_THE_FILE" = some .globalImplicit) (h : Q (.ref 388) M I) : Te c f A m M I (eval (.Name "OF_THE_FILE" pos) env) Q E := e_global k.g_OF_THE_FILE hg hk hx (by decide +kernel) h
theorem nm_MOST_HOPS (k : KF c.K) (hg : env.globals = mainGlobals) (hk : env.scope.kind = .function) (hx : env.kindOf "MOST_HOPS" = some .globalImplicit) (h : Q (.int 30 377) M I) : Te c f A m M I (eval (.Name "MOST_HOPS" pos) env) Q E := e_global k.g_MOST_HOPS hg hk hx (by decide +kernel) h
theorem nm_len (k : KF c.K) (hg : env.globals = mainGlobals) (hb : env.builtins = builtinsNs) (hk : env.scope.kind = .function) (hx : env.kindOf "len" = some .globalImplicit) (h : Q (.builtin "len") M I) : Te c f A m M I (eval (.Name "len" pos) env) Q E := e_builtin k.b_len (by decide +kernel) (by decide +kernel) hg hb hk hx (by decide +kernel) h
theorem nm_list (k : KF c.K) (hg : env.globals = mainGlobals) (hb : env.builtins = builtinsNs) (hk : env.scope.kind = .function) (hx : env.kindOf "list" = some .globalImplicit) (h : Q (.type "list") M I) : Te c f A m M I (eval (.Name "list" pos) env) Q E := e_builtin k.b_list (by decide +kernel) (by decide +kernel) hg hb hk hx (by decide +kernel) h
theorem nm_dict (k : KF c.K) (hg : env.globals = mainGlobals) (hb : env.builtins = builtinsNs) (hk : env.scope.kind = .function) (hx : env.kindOf "dict" = some .globalImplicit) (h : Q (.type "dict") M I) : Te c f A m M I (eval (.Name "dict" pos) env) Q E := e_builtin k.b_dict (by decide +kernel) (by decide +kernel) hg hb hk hx (by decide +kernel) h
theorem nm_bytes (k : KF c.K) (hg : env.globals = mainGlobals) (hb : env.builtins = builtinsNs) (hk : env.scope.kind = .function) (hx : env.kindOf "bytes" = some .globalImplicit) (h : Q (.type "bytes") M I) : Te c f A m M I (eval (.Name "bytes" pos) env) Q E := e_builtin k.b_bytes (by decide +kernel) (by decide +kernel) hg hb hk hx (by decide +kernel) h
theorem nm_tuple (k : KF c.K) (hg : env.globals = mainGlobals) (hb : env.builtins = builtinsNs) (hk : env.scope.kind = .function) (hx : env.kindOf "tuple" = some .globalImplicit) (h : Q (.type "tuple") M I) : Te c f A m M I (eval (.Name "tuple" pos) env) Q E := e_builtin k.b_tuple (by decide +kernel) (by decide +kernel) hg hb hk hx (by decide +kernel) h
theorem nm_sorted (k : KF c.K) (hg : env.globals = mainGlobals) (hb : env.builtins = builtinsNs) (hk : env.scope.kind = .function) (hx : env.kindOf "sorted" = some .globalImplicit) (h : Q (.builtin "sorted") M I) : Te c f A m M I (eval (.Name "sorted" pos) env) Q E := e_builtin k.b_sorted (by decide +kernel) (by decide +kernel) hg hb hk hx (by decide +kernel) h
theorem nm_reversed (k : KF c.K) (hg : env.globals = mainGlobals) (hb : env.builtins = builtinsNs) (hk : env.scope.kind = .function) (hx : env.kindOf "reversed" = some .globalImplicit) (h : Q (.type "reversed") M I) : Te c f A m M I (eval (.Name "reversed" pos) env) Q E := e_builtin k.b_reversed (by decide +kernel) (by decide +kernel) hg hb hk hx (by decide +kernel) h
theorem nm_range (k : KF c.K) (hg : env.globals = mainGlobals) (hb : env.builtins = builtinsNs) (hk : env.scope.kind = .function) (hx : env.kindOf "range" = some .globalImplicit) (h : Q (.type "range") M I) : Te c f A m M I (eval (.Name "range" pos) env) Q E := e_builtin k.b_range (by decide +kernel) (by decide +kernel) hg hb hk hx (by decide +kernel) h
theorem nm_isinstance (k : KF c.K) (hg : env.globals = mainGlobals) (hb : env.builtins = builtinsNs) (hk : env.scope.kind = .function) (hx : env.kindOf "isinstance" = some .globalImplicit) (h : Q (.builtin "isinstance") M I) : Te c f A m M I (eval (.Name "isinstance" pos) env) Q E := e_builtin k.b_isinstance (by decide +kernel) (by decide +kernel) hg hb hk hx (by decide +kernel) h
theorem nm_sum (k : KF c.K) (hg : env.globals = mainGlobals) (hb : env.builtins = builtinsNs) (hk : env.scope.kind = .function) (hx : env.kindOf "sum" = some .globalImplicit) (h : Q (.builtin "sum") M I) : Te c f A m M I (eval (.Name "sum" pos) env) Q E := e_builtin k.b_sum (by decide +kernel) (by decide +kernel) hg hb hk hx (by decide +kernel) h
theorem nm_int (k : KF c.K) (hg : env.globals = mainGlobals) (hb : env.builtins = builtinsNs) (hk : env.scope.kind = .function) (hx : env.kindOf "int" = some .globalImplicit) (h : Q (.type "int") M I) : Te c f A m M I (eval (.Name "int" pos) env) Q E := e_builtin k.b_int (by decide +kernel) (by decide +kernel) hg hb hk hx (by decide +kernel) h
theorem nm_bool (k : KF c.K) (hg : env.globals = mainGlobals) (hb : env.builtins = builtinsNs) (hk : env.scope.kind = .function) (hx : env.kindOf "bool" = some .globalImplicit) (h : Q (.type "bool") M I) : Te c f A m M I (eval (.Name "bool" pos) env) Q E := e_builtin k.b_bool (by decide +kernel) (by decide +kernel) hg hb hk hx (by decide +kernel) h
theorem g_eval {e : Expr} (h : Te c f A m M I (eval e env) Q E) : Te c f A m M I (eval e env) Q E := h
theorem g_name {x : Str} {p : Pos} (h : Te c f A m M I (eval (.Name x p) env) Q E) : Te c f A m M I (eval (.Name x p) env) Q E := h
theorem g_test {e : Expr} {t : Sem Value} {Q : Bool → Led → Led → Prop} (h : Te c f A m M I (isTrue e env t) Q E) : Te c f A m M I (isTrue e env t) Q E := h
theorem g_ts {α : Type} {t : Sem α} {Q : α → Loc → Led → Led → Prop} (h : Ts c f A m M I t Q E) : Ts c f A m M I t Q E := h
theorem g_cw {g : Value} {first : List Value} {args : List (Bool × Sem Value)} {kw : List (Option Str × Sem Value)} (h : Te c f A m M I (callWith pos g first args kw) Q E) : Te c f A m M I (callWith pos g first args kw) Q E := h
theorem ite_in {b : Bool} {X Y : Prop} (h1 : b = true → X) (h2 : b = false → Y) : if b = true then X else Y := by cases b; exact h2 rfl; exact h1 rfl
end



section
variable {c : Wc} {f : Fc} {A : Around} {α β : Type} {m : Loc} {M I : Led} {E : Value → Shared → Prop} {g : Heap}

/-! entries turned and lost, other objects kept -/
theorem Live0.upE {h h' : Heap} {d : Addr} {o o' : Obj} {M' : Led} (L : Live0 c f g m M I h) (U : Up d o o' M M') (he : Heap.ExtBut d h h') (ho : h'.get? d = some o') : Live0 c f g m M' I h' := by
  have hd := L.N _ (List.mem_append_left _ U.mem)
  have F' : Fr g f.L h' (lk m) := ⟨L.F.ns.at' fun o e => he _ o (Ne.symm hd.2.1) e, fun b ob e => he b ob (fun q => by rw [q, hd.2.2] at e; cases e) (L.F.keep b ob e), L.F.above⟩
  refine ⟨L.B, F', L.X, fun p hp => ?_, L.T, ⟨U.keys ▸ L.ap.1, fun p hp q hq => ?_⟩, L.kd⟩
  · rcases List.mem_append.mp hp with hp | hp
    · rcases U.cases L.ap.1 p hp with rfl | ⟨h1, h2⟩
      · exact ⟨ho, hd.2⟩
      · have := L.N p (List.mem_append_left _ h1)
        exact ⟨he p.1 p.2 h2 this.1, this.2⟩
    · have := L.N p (List.mem_append_right _ hp)
      exact ⟨he p.1 p.2 (Ne.symm (L.ap.2 _ U.mem p hp)) this.1, this.2⟩
  · rcases U.cases L.ap.1 p hp with rfl | ⟨h1, h2⟩
    · exact L.ap.2 _ U.mem q hq
    · exact L.ap.2 p h1 q hq
theorem Live.upE {h h' : Heap} {d : Addr} {o o' : Obj} {M' : Led} (L : Live c f m M I h) (U : Up d o o' M M') (he : Heap.ExtBut d h h') (ho : h'.get? d = some o') : Live c f m M' I h' := let ⟨g, L⟩ := L; ⟨g, L.upE U he ho⟩
theorem Live0.lose {h h' : Heap} {d : Addr} {o : Obj} {M' : Led} (L : Live0 c f g m M I h) (D : Del d o M M') (he : Heap.ExtBut d h h') : Live0 c f g m M' I h' := by
  have hd := L.N _ (List.mem_append_left _ D.mem)
  obtain ⟨h1, h2⟩ := D.nodup L.ap.1
  refine ⟨L.B, ⟨L.F.ns.at' fun o e => he _ o (Ne.symm hd.2.1) e, fun b ob e => he b ob (fun q => by rw [q, hd.2.2] at e; cases e) (L.F.keep b ob e), L.F.above⟩, L.X, fun p hp => ?_, L.T, ⟨h1, fun p hp q hq => L.ap.2 p (D.sub p hp) q hq⟩, L.kd⟩
  rcases List.mem_append.mp hp with hp | hp
  · have := L.N p (List.mem_append_left _ (D.sub p hp))
    exact ⟨he p.1 p.2 (h2 p hp) this.1, this.2⟩
  · have := L.N p (List.mem_append_right _ hp)
    exact ⟨he p.1 p.2 (Ne.symm (L.ap.2 _ D.mem p hp)) this.1, this.2⟩
theorem Live.lose {h h' : Heap} {d : Addr} {o : Obj} {M' : Led} (L : Live c f m M I h) (D : Del d o M M') (he : Heap.ExtBut d h h') : Live c f m M' I h' := let ⟨g, L⟩ := L; ⟨g, L.lose D he⟩
theorem Live0.drop {h : Heap} {d : Addr} {o : Obj} {M' : Led} (L : Live0 c f g m M I h) (D : Del d o M M') : Live0 c f g m M' I h := L.lose D (Heap.ExtBut.refl _ _)
theorem Live.drop {h : Heap} {d : Addr} {o : Obj} {M' : Led} (L : Live c f m M I h) (D : Del d o M M') : Live c f m M' I h := let ⟨g, L⟩ := L; ⟨g, L.drop D⟩
theorem Te.drop {t : Sem α} {Q : α → Led → Led → Prop} {d : Addr} {o : Obj} {M' : Led} (D : Del d o M M') (h : Te c f A m M' I t Q E) : Te c f A m M I t Q E := .mk fun s L => h.run s (L.drop D)
theorem Ts.drop {t : Sem α} {Q : α → Loc → Led → Led → Prop} {d : Addr} {o : Obj} {M' : Led} (D : Del d o M M') (h : Ts c f A m M' I t Q E) : Ts c f A m M I t Q E := .mk fun s L => h.run s (L.drop D)
theorem Live0.sub {h : Heap} {I' : Led} (L : Live0 c f g m M I h) (hs : ∀ p ∈ I', p ∈ I) : Live0 c f g m M I' h :=
  ⟨L.B, L.F, L.X, fun p hp => L.N p (by rcases List.mem_append.mp hp with h | h; exact List.mem_append_left _ h; exact List.mem_append_right _ (hs p h)), L.T, ⟨L.ap.1, fun p hp q hq => L.ap.2 p hp q (hs q hq)⟩, L.kd⟩
theorem Live.sub {h : Heap} {I' : Led} (L : Live c f m M I h) (hs : ∀ p ∈ I', p ∈ I) : Live c f m M I' h := let ⟨g, L⟩ := L; ⟨g, L.sub hs⟩

/-! iterators -/
def SrcIn (src : Led) (h : Heap) : Prop := ∀ p ∈ src, h.get? p.1 = some p.2
structure ItOk (c : Wc) (A : Around) (it : Addr) (n : Nat) (P : Nat → Value → Prop) (O : Nat → Obj → Prop) (src : Led) : Prop where
  item : ∀ i o (s : Shared) (Q : Option Value → Shared → Prop) (E : Value → Shared → Prop), i < n → s.heap.get? it = some o → SrcIn src s.heap → O i o →
    (∀ v h' tk o', P i v → Heap.ExtBut it s.heap h' → h'.get? it = some o' → O (i + 1) o' → Q (some v) { s with heap := h', toks := tk }) → wpAny (model PW c.w) A (pyNext (.ref it)) Q E s
  done : ∀ o (s : Shared) (Q : Option Value → Shared → Prop) (E : Value → Shared → Prop), s.heap.get? it = some o → SrcIn src s.heap → O n o →
    (∀ h' tk, Heap.ExtBut it s.heap h' → Q none { s with heap := h', toks := tk }) → wpAny (model PW c.w) A (pyNext (.ref it)) Q E s
  self : ∀ i o (s : Shared) (Q : Value → Shared → Prop) (E : Value → Shared → Prop), s.heap.get? it = some o → SrcIn src s.heap → O i o → Q (.ref it) s → wpAny (model PW c.w) A (pyIter (.ref it)) Q E s
def GoOk (c : Wc) (A : Around) (it : Addr) (target : Expr) (O : Nat → Obj → Prop) (src : Led) : Prop :=
  ∀ i o v (s : Shared) (Q : Unit → Shared → Prop) (E : Value → Shared → Prop), s.heap.get? it = some o → SrcIn src s.heap → O i o → Q () s → wpAny (model PW c.w) A (letOwnedTupleGo target (.ref it) v) Q E s
theorem GoOk.plain {it : Addr} {target : Expr} {O : Nat → Obj → Prop} {src : Led} (h : ∀ v, letOwnedTupleGo target (.ref it) v = pure ()) : GoOk c A it target O src := fun i o v s Q E _ _ _ q => by rw [h v]; exact wpAny_pure q

def OfW (St : Nat → Heap → Prop) (it : Addr) (src : Led) (i : Nat) (o : Obj) : Prop := ∃ h : Heap, St i h ∧ h.get? it = some o ∧ SrcIn src h
theorem ItOk.of {it : Addr} {fp : List Addr} {n : Nat} {P : Nat → Value → Prop} {St : Nat → Heap → Prop} {src : Led} (W : Walks PW c.w A it fp [it] n P St) (hfp : ∀ b ∈ fp, b = it ∨ b ∈ src.map (·.1)) (hne : ∀ p ∈ src, p.1 ≠ it)
    (hio : ∀ i h, St i h → ∃ o, h.get? it = some o) : ItOk c A it n P (OfW St it src) src := by
  have st : ∀ {i : Nat} {o : Obj} {h : Heap}, OfW St it src i o → h.get? it = some o → SrcIn src h → St i h := by
    rintro i o h ⟨h0, s0, g0, r0⟩ g r
    refine W.frame _ _ _ s0 fun b hb ob e => ?_
    rcases hfp b hb with rfl | hb
    · rw [g0] at e; cases e; exact g
    · obtain ⟨p, hp, rfl⟩ := List.mem_map.mp hb
      rw [r0 p hp] at e; cases e; exact r p hp
  have ext : ∀ {s : Shared} {h' : Heap}, (∀ b o, b ∉ [it] → s.heap.get? b = some o → h'.get? b = some o) → Heap.ExtBut it s.heap h' := fun k b o hb e => k b o (by simpa using hb) e
  refine ⟨fun i o s Q E hi g r x k => ?_, fun o s Q E g r x k => ?_, fun i o s Q E g r x q => ?_⟩
  · refine W.item i s Q E hi (st x g r) fun v h' tk hP hst hk => ?_
    obtain ⟨o', ho'⟩ := hio _ _ hst
    exact k v h' tk o' hP (ext hk) ho' ⟨h', hst, ho', fun p hp => ext hk _ _ (hne p hp) (r p hp)⟩
  · exact W.done s Q E (st x g r) fun h' tk hk => k h' tk (ext hk)
  · exact W.self i s Q E (st x g r) q

/-! loops -/
/-- what a loop over the iterator at it needs -/
structure Loop (c : Wc) (f : Fc) (A : Around) (target : Expr) (env : Env) (it : Addr) (n : Nat) (P : Nat → Value → Prop) (O : Nat → Obj → Prop) (src : Led) : Prop where
  ok : ItOk c A it n P O src
  go : GoOk c A it target O src

def TurnQ (J : Loc → Led → Led → Prop) (Q : Flow → Loc → Led → Led → Prop) (it : Addr) (o : Obj) (fl : Flow) (m : Loc) (M I : Led) : Prop := ∃ M', M = (it, o) :: M' ∧ match fl with
  | .next => J m M' I
  | .cont => J m M' I
  | .brk => Q .next m M' I
  | .ret v => Q (.ret v) m M' I

def ForOn (c : Wc) (f : Fc) (A : Around) (target : Expr) (body : List Stmt) (Q : Flow → Loc → Led → Led → Prop) (m : Loc) (itv : Value) (M I : Led) : Prop :=
  ∃ (it : Addr) (o : Obj) (M' : Led) (n : Nat) (P : Nat → Value → Prop) (O : Nat → Obj → Prop) (src : Led) (J : Nat → Loc → Led → Led → Prop), itv = .ref it ∧ M = (it, o) :: M' ∧ Loop c f A target f.env it n P O src ∧ O 0 o ∧ J 0 m M' I ∧
    (∀ i m M I, J i m M I → ∀ p ∈ src, p ∈ M ++ I) ∧
    (∀ i m M I v o', i < n → P i v → J i m M I → ∀ R, Ends (TurnQ (J (i + 1)) Q it o') R → Ts c f A m ((it, o') :: M) I (assign target f.env v) (kBody c f A FF body R) FF) ∧
    (∀ m M I, J n m M I → Q .next m M I)

theorem src_in {src : Led} {it : Addr} {o : Obj} {h : Heap} (L : Live c f m ((it, o) :: M) I h) (hs : ∀ p ∈ src, p ∈ M ++ I) : SrcIn src h := fun p hp => L.g (List.mem_cons_of_mem _ (hs p hp))

def fOut (R : Result → Shared → Prop) (Y : Shared → Prop) : Flow → Shared → Prop
  | .next, s => Y s
  | .cont, s => Y s
  | .brk, s => R (.ok .next) s
  | .ret v, s => R (.ok (.ret v)) s
def fBody (c : Wc) (A : Around) (body : List Stmt) (env : Env) (R : Result → Shared → Prop) (Y : Shared → Prop) (EE : Value → Shared → Prop) (_ : Unit) (s : Shared) : Prop := wpAny (model PW c.w) A (execs body env) (fOut R Y) EE s
def fNext (c : Wc) (A : Around) (target : Expr) (body : List Stmt) (env : Env) (it : Value) (R : Result → Shared → Prop) (Y : Shared → Prop) (EE : Value → Shared → Prop) : Option Value → Shared → Prop
  | none, s => R (.ok .next) s
  | some v, s => wpAny (model PW c.w) A (letOwnedTupleGo target it v) (fun _ s' => wpAny (model PW c.w) A (assign target env v) (fBody c A body env R Y EE) EE s') EE s
theorem for_go {target : Expr} {body : List Stmt} {env : Env} {it : Value} {R : Result → Shared → Prop} {s : Shared} (J : Nat → Shared → Prop)
    (turn : ∀ n s, J n s → ∀ (Y : Shared → Prop) (EE : Value → Shared → Prop), (∀ m s', m < n → J m s' → Y s') → wpAny (model PW c.w) A (pyNext it) (fNext c A target body env it R Y EE) EE s)
    (n : Nat) (h : J n s) : codeAny (model PW c.w) A (.forLoop target it body [] env) R s := by
  refine codeAny_forLoop_any J (fun n s hI => ?_) n h
  refine wpAny_mono (turn n s hI (fun s' => ∃ m, m < n ∧ J m s') _ fun m s' a b => ⟨m, a, b⟩) (fun r s₁ h₁ => ?_) fun _ _ e => e
  cases r with
  | none => exact wpAny_execs_nil h₁
  | some v =>
    refine wpAny_mono h₁ (fun _ s₂ h₂ => wpAny_mono h₂ (fun _ s₃ h₃ => wpAny_mono h₃ (fun fl s₄ h₄ => ?_) fun _ _ e => e) fun _ _ e => e) fun _ _ e => e
    cases fl <;> exact h₄
/-- the state of a loop -/
inductive FInv (c : Wc) (f : Fc) (it : Addr) (O : Nat → Obj → Prop) (J : Nat → Loc → Led → Led → Prop) (n : Nat) (s₀ : Shared) : Nat → Shared → Prop
  | mk (i : Nat) (m : Loc) (M I : Led) (o : Obj) (h : Heap) (tk : Nat) : Live c f m ((it, o) :: M) I h → O i o → J i m M I → i ≤ n → FInv c f it O J n s₀ (n - i) { s₀ with heap := h, toks := tk }
theorem for_run {target : Expr} {body : List Stmt} {Q : Flow → Loc → Led → Led → Prop} {itv : Value} {s : Shared} {R : Result → Shared → Prop} (q : ForOn c f A target body Q m itv M I) (L : Live c f m M I s.heap)
    (hR : ∀ fl m' M' I' h tk, Live c f m' M' I' h → Q fl m' M' I' → R (.ok fl) { s with heap := h, toks := tk }) : codeAny (model PW c.w) A (.forLoop target itv body [] f.env) R s := by
  obtain ⟨it, o, M3, n, P, O, src, J, rfl, rfl, W, h0, j0, hsrc, turn, fin⟩ := q
  refine for_go (FInv c f it O J n s) ?_ n (.mk 0 m M3 I o s.heap s.toks L h0 j0 (Nat.zero_le n))
  rintro _ _ ⟨i, m', M', I', o', h', tk', L', hO, hJ, hi⟩ Y EE hY
  have g := L'.gM (.head _)
  have r := src_in L' (hsrc _ _ _ _ hJ)
  by_cases hlt : i < n
  · refine W.ok.item i o' _ _ _ hlt g r hO fun v h3 tk o3 hP he g3 hO3 => ?_
    have L3 := L'.upE .head he g3
    refine W.go (i + 1) o3 v { s with heap := h3, toks := tk } _ _ g3 (src_in L3 (hsrc _ _ _ _ hJ)) hO3 ?_
    refine wpAny_mono ((turn i m' M' I' v o3 hlt hP hJ _ fun _ _ _ _ q => q).run _ L3) (fun _ s4 q4 => ?_) fun _ _ e => e.elim
    obtain ⟨h4, t4, m4, M4, I4, rfl, L4, q4⟩ := q4
    refine wpAny_mono (q4.run _ L4) (fun fl s5 q5 => ?_) fun _ _ e => e.elim
    obtain ⟨h5, t5, m5, M5, I5, rfl, L5, M6, rfl, q5⟩ := q5
    cases fl with
    | next => exact hY _ _ (Nat.sub_lt_sub_left hlt (Nat.lt_succ_self i)) (.mk (i + 1) m5 M6 I5 o3 h5 t5 L5 hO3 q5 hlt)
    | cont => exact hY _ _ (Nat.sub_lt_sub_left hlt (Nat.lt_succ_self i)) (.mk (i + 1) m5 M6 I5 o3 h5 t5 L5 hO3 q5 hlt)
    | brk => exact hR .next m5 M6 I5 h5 t5 (L5.drop .head) q5
    | ret v => exact hR (.ret v) m5 M6 I5 h5 t5 (L5.drop .head) q5
  · obtain rfl : i = n := Nat.le_antisymm hi (Nat.le_of_not_lt hlt)
    exact W.ok.done o' _ _ _ g r hO fun h3 t3 he => hR .next m' M' I' h3 t3 (L'.lose .head he) (fin _ _ _ hJ)
theorem s_for {target iter body pos} {Q : Flow → Loc → Led → Led → Prop} (h : Te c f A m M I (eval iter f.env) (kIt c f A m E (ForOn c f A target body Q m)) E)
    (hs : ∀ x, foldedSetIterable iter f.env x = pure x) : Ts c f A m M I (exec (.For target iter body [] pos) f.env) Q E :=
  .mk fun s L => wpAny_For (h.step L fun x h1 t1 M1 I1 L1 q => q.step (s := { s with heap := h1, toks := t1 }) L1 fun itv h2 t2 M2 I2 L2 q =>
    for_run (s := { s with heap := h2, toks := t2 }) q L2 fun fl m' M' I' h tk L' q => ⟨h, tk, m', M', I', rfl, L', q⟩) hs
end



section
variable {c : Wc} {f : Fc} {A : Around} {α β : Type} {m : Loc} {M I : Led} {E : Value → Shared → Prop}

/-- a namespace object that holds these names -/
def NO (lm : Loc) (o : Obj) : Prop := LCg.NsObj o (lk lm)
abbrev Ce (f : Fc) (scope : Scope) (cl : List (Str × Addr)) (C : Addr) : Env := compEnvC scope cl C f.env

theorem ce_local {scope : Scope} {cl : List (Str × Addr)} {C : Addr} {oC : Obj} {lm : Loc} {x : Str} {pos : Pos} {v : Value} {Q : Value → Led → Led → Prop} (hm : (C, oC) ∈ M ++ I) (hn : NO lm oC) (hv : Look x v lm) (hk : scope.kind = .function)
    (hx : scope.names.lookup x = some .local) (hd : (x == ("__debug__" : Str)) = false) (h : Q v M I) : Te c f A m M I (eval (.Name x pos) (Ce f scope cl C)) Q E :=
  Te.here (v := v) (fun s R L r => wpAny_Name (wpAny_loadName_local (env := Ce f scope cl C) hk (lookup_relabel_local hx) (LCg.NsObj.ns hn (L.g hm)) hv.get (r s.toks)) hd) h
theorem ce_cell {scope : Scope} {cl : List (Str × Addr)} {C : Addr} {x : Str} {pos : Pos} {v : Value} {a : Addr} {o : Obj} {Q : Value → Led → Led → Prop} (hc : cl.lookup x = some a) (hm : (a, o) ∈ M ++ I) (hd : o.data = .cell (some v)) (hk : scope.kind = .function)
    (hx : (Ce f scope cl C).kindOf x = some .cell) (hb : (x == ("__debug__" : Str)) = false) (h : Q v M I) : Te c f A m M I (eval (.Name x pos) (Ce f scope cl C)) Q E :=
  Te.here (v := v) (fun s R L r => wpAny_Name (wpAny_loadName_cell (env := Ce f scope cl C) hk hx hc ⟨o, L.g hm, hd⟩ (r s.toks)) hb) h
theorem cn_local {scope : Scope} {cl : List (Str × Addr)} {C : Addr} {oC : Obj} {lm : Loc} {x : Str} {v : Value} {M' : Obj → Led} {Q : Unit → Loc → Led → Led → Prop} (U : ∀ o', Up C oC o' M (M' o')) (hn : NO lm oC) (hk : scope.kind = .function)
    (hx : scope.names.lookup x = some .local) (h : ∀ o', NO ((x, v) :: lm) o' → Q () m (M' o') I) : Ts c f A m M I (storeName (Ce f scope cl C) x v) Q E := by
  refine .mk fun s L => wpAny_storeName_local (env := Ce f scope cl C) (lookup_relabel_local hx) (LCg.NsObj.ns hn (L.gM (U oC).mem)) (fun h' hn' hs' => ?_) (by show (scope.kind == .class || (scope.kind == .module && _)) = false; rw [hk]; rfl)
  obtain ⟨o', e', n'⟩ := LCg.ns_obj hn'
  exact ⟨h', _, m, M' o', I, rfl, L.upE (U o') hs'.extBut e', h o' (by show LCg.NsObj o' _; rw [← lk_put]; exact n')⟩

def tests (ifs : List Expr) (env : Env) : Sem Bool := forIn ifs true fun c r => if r = true then do let ok ← isTrue c env (eval c env); pure (ForInStep.yield ok) else pure (ForInStep.yield r)
theorem tt_nil {env : Env} {Q : Bool → Led → Led → Prop} (h : Q true M I) : Te c f A m M I (tests [] env) Q E := .mk fun s L => wpAny_tests_nil ⟨s.heap, s.toks, M, I, rfl, L, h⟩
theorem tt_one {env : Env} {e : Expr} {Q : Bool → Led → Led → Prop} (h : Te c f A m M I (isTrue e env (eval e env)) Q E) : Te c f A m M I (tests [e] env) Q E := .mk fun s L => wpAny_tests_one (h.run s L)

/-! one clause's loop -/
def turnTree (target iter : Expr) (ifs : List Expr) (yes : Sem PySem.Fin) (nxt : Code) (it : Value) (env : Env) : Sem PySem.Fin := do
  standAt iter.pos
  match ← pyNext it with
  | none => pure (.done .next)
  | some v =>
    letOwnedTupleGo target it v
    assign target env v
    let ok ← tests ifs env
    if ok = true then yes else again nxt
def emit1 (elt : Expr) (acc : Value) (env : Env) : Sem Unit := do let _ ← call (.builtin "list.append") [acc, ← eval elt env]
def yes1 (elt : Expr) (acc : Value) (env : Env) (nxt : Code) : Sem PySem.Fin := do
  emit1 elt acc env
  again nxt
theorem turn_eq (elt target iter : Expr) (ifs : List Expr) (scope : Scope) (pos : Pos) (it acc : Value) (env : Env) :
    compTurn (.ListComp elt [⟨target, iter, ifs, 0⟩] scope pos) 0 it acc env = turnTree target iter ifs (yes1 elt acc env (.compLoop (.ListComp elt [⟨target, iter, ifs, 0⟩] scope pos) 0 it acc env)) (.compLoop (.ListComp elt [⟨target, iter, ifs, 0⟩] scope pos) 0 it acc env) it env := by rfl
def cOk (c : Wc) (A : Around) (yes : Sem PySem.Fin) (nxt : Code) (Y : Shared → Prop) (ok : Bool) (s : Shared) : Prop := if ok = true then wpAny (model PW c.w) A yes (fun fin s' => fin = .again nxt ∧ Y s') FF s else Y s
def cAs (c : Wc) (A : Around) (ifs : List Expr) (env : Env) (yes : Sem PySem.Fin) (nxt : Code) (Y : Shared → Prop) (_ : Unit) (s : Shared) : Prop := wpAny (model PW c.w) A (tests ifs env) (cOk c A yes nxt Y) FF s
def cNext (c : Wc) (A : Around) (target : Expr) (ifs : List Expr) (env : Env) (it : Value) (yes : Sem PySem.Fin) (nxt : Code) (Rd Y : Shared → Prop) : Option Value → Shared → Prop
  | none, s => Rd s
  | some v, s => wpAny (model PW c.w) A (letOwnedTupleGo target it v) (fun _ s' => wpAny (model PW c.w) A (assign target env v) (cAs c A ifs env yes nxt Y) FF s') FF s
theorem loop_go {elt target iter : Expr} {gens : List Comprehension} {scope : Scope} {pos : Pos} {d : Nat} {ifs : List Expr} {yes : Sem PySem.Fin} {it acc : Value} {env : Env} {R : Result → Shared → Prop} {s : Shared}
    (ht : compTurn (.ListComp elt gens scope pos) d it acc env = turnTree target iter ifs yes (Code.compLoop (.ListComp elt gens scope pos) d it acc env) it env) (J : Nat → Shared → Prop)
    (turn : ∀ n s, J n s → ∀ Y : Shared → Prop, (∀ m s', m < n → J m s' → Y s') → wpAny (model PW c.w) A (pyNext it) (cNext c A target ifs env it yes (Code.compLoop (.ListComp elt gens scope pos) d it acc env) (R (.ok .next)) Y) FF s)
    (n : Nat) (h : J n s) : codeAny (model PW c.w) A (Code.compLoop (.ListComp elt gens scope pos) d it acc env) R s := by
  refine codeAny_loop rfl J (fun n s hI => ?_) n h
  show wpAny _ A ((compTurn (.ListComp elt gens scope pos) d it acc env).onRaise (fun x => do noteFrame x env; theTreesLotGoes x)) _ _ s
  refine wpAny_noted ?_
  rw [ht]
  unfold turnTree
  refine wpAny_bind (wpAny_standAt (wpAny_bind (wpAny_mono (turn n s hI (fun s' => ∃ m, m < n ∧ J m s') fun m s' a b => ⟨m, a, b⟩) (fun r s₁ h₁ => ?_) fun _ _ h' => h'.elim)))
  cases r with
  | none => exact wpAny_pure h₁
  | some v =>
    refine wpAny_bind (wpAny_mono h₁ (fun _ s₁' h₁' => ?_) fun _ _ h' => h'.elim)
    refine wpAny_bind (wpAny_mono h₁' (fun _ s₂ h₂ => wpAny_bind (wpAny_mono h₂ (fun ok s₃ h₃ => ?_) fun _ _ h' => h'.elim)) fun _ _ h' => h'.elim)
    cases ok with
    | false => exact wpAny_pure ⟨rfl, h₃⟩
    | true =>
      refine wpAny_mono h₃ (fun fin s₄ h₄ => ?_) fun _ _ h' => h'.elim
      obtain ⟨rfl, h₄⟩ := h₄
      exact ⟨rfl, h₄⟩

/-- the state of one clause's loop; Z lays out its ledger -/
inductive CInv (c : Wc) (f : Fc) (m : Loc) (Z : Obj → Obj → Obj → Led → Led) (O : Nat → Obj → Prop) (G : Loc → Prop) (J : Nat → List Value → Led → Led → Prop) (n : Nat) (s₀ : Shared) : Nat → Shared → Prop
  | mk (i : Nat) (ys : List Value) (M I : Led) (o oC oD : Obj) (lm : Loc) (h : Heap) (tk : Nat) : Live c f m (Z oC oD o M) I h → O i o → NO lm oC → G lm → LO ys oD → J i ys M I → i ≤ n → CInv c f m Z O G J n s₀ (n - i) { s₀ with heap := h, toks := tk }
/-- what a turn hands on -/
def CNxt (c : Wc) (f : Fc) (m : Loc) (Z : Obj → Obj → Obj → Led → Led) (G : Loc → Prop) (K : List Value → Led → Led → Prop) (o : Obj) (s₀ : Shared) (Y : Shared → Prop) : Prop :=
  ∀ ys M I oC oD lm h tk, Live c f m (Z oC oD o M) I h → NO lm oC → G lm → LO ys oD → K ys M I → Y { s₀ with heap := h, toks := tk }
theorem clause_run {elt target iter : Expr} {gens : List Comprehension} {scope : Scope} {pos : Pos} {d : Nat} {ifs : List Expr} {yes : Sem PySem.Fin} {acc : Value} {env : Env} {R : Result → Shared → Prop} {s s₀ : Shared} {it C D : Addr} {n : Nat} {P : Nat → Value → Prop} {Z : Obj → Obj → Obj → Led → Led} {O : Nat → Obj → Prop} {G : Loc → Prop} {J : Nat → List Value → Led → Led → Prop} {src : Led}
    (ht : compTurn (.ListComp elt gens scope pos) d (.ref it) acc env = turnTree target iter ifs yes (Code.compLoop (.ListComp elt gens scope pos) d (.ref it) acc env) (.ref it) env) (W : Loop c f A target f.env it n P O src)
    (uI : ∀ oC oD o o' M, Up it o o' (Z oC oD o M) (Z oC oD o' M)) (dI : ∀ oC oD o M, Del it o (Z oC oD o M) ((C, oC) :: (D, oD) :: M))
    (hsrc : ∀ i ys M I oC oD o, J i ys M I → ∀ p ∈ src, p ∈ Z oC oD o M ++ I)
    (turn : ∀ i ys M I v o oC oD lm h tk, i < n → P i v → Live c f m (Z oC oD o M) I h → NO lm oC → G lm → LO ys oD → J i ys M I → ∀ Y, CNxt c f m Z G (J (i + 1)) o s₀ Y → wpAny (model PW c.w) A (assign target env v) (cAs c A ifs env yes (Code.compLoop (.ListComp elt gens scope pos) d (.ref it) acc env) Y) FF { s₀ with heap := h, toks := tk })
    (fin : ∀ ys M I oC oD lm h tk, Live c f m ((C, oC) :: (D, oD) :: M) I h → NO lm oC → LO ys oD → J n ys M I → R (.ok .next) { s₀ with heap := h, toks := tk })
    {k : Nat} (H : CInv c f m Z O G J n s₀ k s) : codeAny (model PW c.w) A (.compLoop (.ListComp elt gens scope pos) d (.ref it) acc env) R s := by
  refine loop_go ht (CInv c f m Z O G J n s₀) ?_ k H
  rintro _ _ ⟨i, ys, M, I, o, oC, oD, lm, h, tk, L, hO, hC, hG, hD, hJ, hi⟩ Y hY
  have g := L.gM (uI oC oD o o M).mem
  have r : SrcIn src h := fun p hp => L.g (hsrc _ _ _ _ _ _ _ hJ p hp)
  by_cases hlt : i < n
  · refine W.ok.item i o _ _ _ hlt g r hO fun v h3 tk3 o3 hP he g3 hO3 => ?_
    have L3 := L.upE (uI oC oD o o3 M) he g3
    refine W.go (i + 1) o3 v { s₀ with heap := h3, toks := tk3 } _ _ g3 (fun p hp => L3.g (hsrc _ _ _ _ _ _ _ hJ p hp)) hO3 ?_
    exact turn i ys M I v o3 oC oD lm h3 tk3 hlt hP L3 hC hG hD hJ Y fun ys' M' I' oC' oD' lm' h' tk' L' hC' hG' hD' hJ' => hY _ _ (Nat.sub_lt_sub_left hlt (Nat.lt_succ_self i)) (.mk (i + 1) ys' M' I' o3 oC' oD' lm' h' tk' L' hO3 hC' hG' hD' hJ' hlt)
  · obtain rfl : i = n := Nat.le_antisymm hi (Nat.le_of_not_lt hlt)
    exact W.ok.done o _ _ _ g r hO fun h3 t3 he => fin ys M I oC oD lm h3 t3 (L.lose (dI oC oD o M) he) hC hD hJ

/-- where a turn that emits ends -/
def EndZ (Z : Obj → Obj → Obj → Led → Led) (G : Loc → Prop) (K : Led → Led → Prop) (oD o : Obj) (M I : Led) : Prop := ∃ oC M' lm, M = Z oC oD o M' ∧ NO lm oC ∧ G lm ∧ K M' I
abbrev YesQ (c : Wc) (f : Fc) (A : Around) (m : Loc) (elt : Expr) (env : Env) (Ry : Value → Led → Led → Prop) (Rn : Led → Led → Prop) (ok : Bool) (M I : Led) : Prop := if ok = true then Te c f A m M I (eval elt env) Ry FF else Rn M I
abbrev TestQ (c : Wc) (f : Fc) (A : Around) (m : Loc) (ifs : List Expr) (elt : Expr) (env : Env) (Ry : Value → Led → Led → Prop) (Rn : Led → Led → Prop) : Unit → Loc → Led → Led → Prop := fun _ m' M I => m' = m ∧ Te c f A m M I (tests ifs env) (YesQ c f A m elt env Ry Rn) FF
theorem one_turn {target elt : Expr} {ifs : List Expr} {env : Env} {nxt : Code} {D : Addr} {Z : Obj → Obj → Obj → Led → Led} {G : Loc → Prop} {K : List Value → Led → Led → Prop} {ys : List Value} {o oD : Obj} {s₀ : Shared} {h : Heap} {tk : Nat} {v : Value}
    (uD : ∀ oC oD oD' o M, Up D oD oD' (Z oC oD o M) (Z oC oD' o M)) (hz : ys.length ≤ sizeLine) (hD : LO ys oD)
    (t : Ts c f A m M I (assign target env v) (TestQ c f A m ifs elt env (fun y => EndZ Z G (K (ys ++ [y])) oD o) (EndZ Z G (K ys) oD o)) FF) (L : Live c f m M I h) (Y : Shared → Prop) (hY : CNxt c f m Z G K o s₀ Y) :
    wpAny (model PW c.w) A (assign target env v) (cAs c A ifs env (yes1 elt (.ref D) env nxt) nxt Y) FF { s₀ with heap := h, toks := tk } := by
  refine t.step (s := { s₀ with heap := h, toks := tk }) L fun _ h4 t4 m4 M4 I4 L4 q4 => ?_
  obtain ⟨rfl, q4⟩ := q4
  refine q4.step (s := { s₀ with heap := h4, toks := t4 }) L4 fun ok h5 t5 M5 I5 L5 q5 => ?_
  cases ok with
  | false =>
    obtain ⟨oC6, M6, lm6, rfl, hC6, hG6, q6⟩ := q5
    exact hY ys M6 I5 oC6 oD lm6 h5 t5 L5 hC6 hG6 hD q6
  | true =>
    refine wpAny_bind (wpAny_bind (Te.step (s := { s₀ with heap := h5, toks := t5 }) q5 L5 fun y h6 t6 M6 I6 L6 q6 => ?_))
    obtain ⟨oC6, M7, lm6, rfl, hC6, hG6, q6⟩ := q6
    refine wpAny_bind (wpAny_list_append (L6.isList (List.mem_append_left _ (uD oC6 oD oD o M7).mem) hD) (fun h7 hl7 hs7 => ?_) (by simpa using hz))
    rw [show ys.toArray.push y = (ys ++ [y]).toArray by simp] at hl7
    obtain ⟨o7, ho7, hx7⟩ := IsList.lo hl7
    exact wpAny_pure (wpAny_pure ⟨rfl, hY (ys ++ [y]) M7 I6 oC6 o7 lm6 h7 t6 (L6.up (uD oC6 oD o7 o M7) hs7 ho7) hC6 hG6 hx7 q6⟩)

def EndQ (K : Led → Led → Prop) (C D it : Addr) (oD o : Obj) (M I : Led) : Prop := ∃ oC M', M = (C, oC) :: (D, oD) :: (it, o) :: M' ∧ (∃ lm, NO lm oC) ∧ K M' I
def ZQ (C D it : Addr) (oC oD o : Obj) (M : Led) : Led := (C, oC) :: (D, oD) :: (it, o) :: M
def TT (_ : Loc) : Prop := True
theorem EndQ.z {K : Led → Led → Prop} {C D it : Addr} {oD o : Obj} (h : EndQ K C D it oD o M I) : EndZ (ZQ C D it) TT K oD o M I := let ⟨oC, M', e, ⟨lm, n⟩, q⟩ := h; ⟨oC, M', lm, e, n, trivial, q⟩

def CompOn (c : Wc) (f : Fc) (A : Around) (target elt : Expr) (ifs : List Expr) (scope : Scope) (cl : List (Str × Addr)) (Q : Value → Led → Led → Prop) (m : Loc) (itv : Value) (M I : Led) : Prop :=
  ∃ (it : Addr) (o : Obj) (M' : Led) (n : Nat) (P : Nat → Value → Prop) (O : Nat → Obj → Prop) (src : Led) (J : Nat → List Value → Led → Led → Prop), itv = .ref it ∧ M = (it, o) :: M' ∧ Loop c f A target f.env it n P O src ∧ O 0 o ∧ J 0 [] M' I ∧ n ≤ sizeLine ∧
    (∀ i ys M I, J i ys M I → ∀ p ∈ src, p ∈ M ++ I) ∧
    (∀ i ys M I v o' C oC D oD lm, i < n → P i v → J i ys M I → NO lm oC → LO ys oD → ∀ (Ry : Value → Led → Led → Prop) (Rn : Led → Led → Prop), EndsV (fun y => EndQ (J (i + 1) (ys ++ [y])) C D it oD o') Ry → EndsL (EndQ (J (i + 1) ys) C D it oD o') Rn → Ts c f A m ((C, oC) :: (D, oD) :: (it, o') :: M) I (assign target (Ce f scope cl C) v) (TestQ c f A m ifs elt (Ce f scope cl C) Ry Rn) FF) ∧
    (∀ ys M I D oD, J n ys M I → LO ys oD → Q (.ref D) ((D, oD) :: M) I)
/-- the run of a comprehension of one clause, its frame at hand -/
theorem comp_run {elt target iter : Expr} {ifs : List Expr} {scope : Scope} {pos : Pos} {cl : List (Str × Addr)} {Q : Value → Led → Led → Prop} {itv : Value} {s : Shared} {C D : Addr} {oC oD : Obj} {R : Result → Shared → Prop} (q : CompOn c f A target elt ifs scope cl Q m itv M I)
    (L : Live c f m ((C, oC) :: (D, oD) :: M) I s.heap) (hC : NO [] oC) (hD : LO [] oD)
    (fin : ∀ M' I' oC' lm h tk, Live c f m ((C, oC') :: M') I' h → NO lm oC' → Q (.ref D) M' I' → R (.ok .next) { s with heap := h, toks := tk }) :
    codeAny (model PW c.w) A (.compStart (.ListComp elt [⟨target, iter, ifs, 0⟩] scope pos) 0 itv (.ref D) (Ce f scope cl C)) R s := by
  obtain ⟨it, o, M3, n, P, O, src, J, rfl, rfl, W, h0, j0, hz, hsrc, turn, fin'⟩ := q
  have hs2 : ∀ i ys M I oC oD o, (J i ys M I ∧ ys.length ≤ i) → ∀ p ∈ src, p ∈ ZQ C D it oC oD o M ++ I := fun i ys M I oC oD o h p hp => List.mem_cons_of_mem _ (List.mem_cons_of_mem _ (List.mem_cons_of_mem _ (hsrc i ys M I h.1 p hp)))
  have loop : codeAny (model PW c.w) A (.compLoop (.ListComp elt [⟨target, iter, ifs, 0⟩] scope pos) 0 (.ref it) (.ref D) (Ce f scope cl C)) R s := by
    refine clause_run (s₀ := s) (C := C) (D := D) (Z := ZQ C D it) (G := TT) (J := fun i ys M I => J i ys M I ∧ ys.length ≤ i) (turn_eq _ _ _ _ _ _ _ _ _) W (fun _ _ _ _ _ => .tail (.tail .head)) (fun _ _ _ _ => .tail (.tail .head)) hs2 ?_ ?_ (.mk 0 [] M3 I o oC oD [] s.heap s.toks L h0 hC trivial hD ⟨j0, Nat.le_refl _⟩ (Nat.zero_le n))
    · intro i ys M I v o oC oD lm h tk hlt hP L hC _ hD hJ Y hY
      refine one_turn (Z := ZQ C D it) (G := TT) (K := fun ys M I => J (i + 1) ys M I ∧ ys.length ≤ i + 1) (fun _ _ _ _ _ => .tail .head) (Nat.le_trans hJ.2 (Nat.le_trans (Nat.le_of_lt hlt) hz)) hD (turn i ys M I v o C oC D oD lm hlt hP hJ.1 hC hD _ _ (fun y M I q => ?_) fun M I q => ?_) L Y hY
      · obtain ⟨oC, M', lm, e, a, b, d⟩ := q.z
        exact ⟨oC, M', lm, e, a, b, d, by rw [List.length_append]; exact Nat.succ_le_succ hJ.2⟩
      · obtain ⟨oC, M', lm, e, a, b, d⟩ := q.z
        exact ⟨oC, M', lm, e, a, b, d, Nat.le_succ_of_le hJ.2⟩
    · intro ys M I oC oD lm h tk L hC hD hJ
      exact fin _ I oC lm h tk L hC (fin' ys M I D oD hJ.1 hD)
  exact codeAny_compStart_list loop (W.ok.self 0 o _ _ _ (L.gM (.tail _ (.tail _ (.head _)))) (fun p hp => L.g (hs2 0 [] M3 I oC oD o ⟨j0, Nat.le_refl _⟩ p hp)) h0 loop)
/-- the frame and the list of a comprehension -/
theorem comp_ground {h₁ : Heap} {a b : Obj} {h : Heap} (L2 : Live c f m M I h) (ha : a.isFreed = false) (hb : b.isFreed = false) (hns : h₁.Ns (h.push a).objs.size (lk [])) (hsb : Heap.SameBut (h.push a).objs.size ((h.push a).push b) h₁) :
    ∃ oC, NO [] oC ∧ Live c f m (((h.push a).objs.size, oC) :: (h.objs.size, a) :: M) I h₁ := by
  obtain ⟨oC, heC, hoC⟩ := LCg.ns_obj hns
  exact ⟨oC, hoC, ((L2.pushM a ha).pushM b hb).upE .head hsb.extBut heC⟩
theorem e_comp {elt target iter : Expr} {ifs : List Expr} {scope : Scope} {pos : Pos} {cl : List (Str × Addr)} {Q : Value → Led → Led → Prop} (hclos : closureFor scope f.env = pure cl) (hcell : ∀ y ∈ scope.names, y.2 ≠ .cell) (hkind : scope.kind = .function)
    (hnames : ∀ x ∈ scope.names, x.2 = .local → scope.names.lookup x.1 = some .local) (hs : ∀ x, foldedSetIterable iter f.env x = pure x)
    (h : Te c f A m M I (eval iter f.env) (kIt c f A m E (CompOn c f A target elt ifs scope cl Q m)) E) : Te c f A m M I (eval (.ListComp elt [⟨target, iter, ifs, 0⟩] scope pos) f.env) Q E := by
  refine .mk fun s L => ?_
  rw [eval_ListComp]
  refine wpAny_comprehension_free (use := none) rfl hs hclos hkind hnames (h.step L fun x h1 t1 M1 I1 L1 q => q.step (s := { s with heap := h1, toks := t1 }) L1 fun itv h2 t2 M2 I2 L2 q => ?_)
  refine wpAny_newObj_type (wpAny_newFunctionEnv hcell (by intro y hy; simp at hy) (fun h₁ hns₁ hsb₁ => ?_) hkind)
  obtain ⟨oC, hoC, L5⟩ := comp_ground L2 rfl rfl hns₁ hsb₁
  refine comp_run q L5 hoC ⟨rfl, 0, rfl⟩ fun M' I' oC' lm h3 t3 L3 hC hq => ?_
  exact ⟨_, LCg.NsObj.ns hC (L3.gM (.head _)), fun h4 hs4 => ⟨h4, t3, _, _, rfl, L3.lose .head hs4.extBut, hq⟩⟩
end



section
variable {c : Wc} {f : Fc} {A : Around} {α β : Type} {m : Loc} {M I : Led} {E : Value → Shared → Prop}

theorem ItOk.weaken {it : Addr} {n : Nat} {P P' : Nat → Value → Prop} {O : Nat → Obj → Prop} {src : Led} (h : ItOk c A it n P O src) (hp : ∀ i v, P i v → P' i v) : ItOk c A it n P' O src :=
  ⟨fun i o s Q E hi g r x k => h.item i o s Q E hi g r x fun v h' tk o' p => k v h' tk o' (hp i v p), h.done, h.self⟩

def NoTuple : Expr → Prop
  | .Tuple .. => False
  | .List .. => False
  | _ => True
theorem GoOk.ofPlain {it : Addr} {target : Expr} {O : Nat → Obj → Prop} {src : Led} (h : NoTuple target) : GoOk c A it target O src :=
  GoOk.plain fun v => by cases target <;> first | rfl | exact h.elim

theorem GoOk.list {it l : Addr} {target : Expr} {src : Led} {items : Array Value} : GoOk c A it target (OfW (fun i h => h.IsListIter it l i ∧ h.IsList l items) it src) src := by
  intro i o v s Q E g r x q
  obtain ⟨h, ⟨st, _⟩, g', _⟩ := x
  have hit : s.heap.IsListIter it l i := by
    obtain ⟨o', ho', r'⟩ := st
    rw [g'] at ho'; cases ho'
    exact ⟨_, g, r'⟩
  cases target
  case Tuple elts k pos =>
    cases v <;> first | exact wpAny_pure q | exact wpAny_letOwnedTupleGo_listiter hit q
  case List elts pos =>
    cases v <;> first | exact wpAny_pure q | skip
    obtain ⟨oo, ho, hc, hd⟩ := hit
    unfold letOwnedTupleGo
    refine wpAny_bind (wpAny_load ho ?_)
    rw [hc, hd]
    exact wpAny_pure q
  all_goals exact wpAny_pure q

theorem SrcIn.one {h : Heap} {p : Addr × Obj} (g : h.get? p.1 = some p.2) : SrcIn [p] h := fun q hq => by
  rcases List.mem_cons.mp hq with rfl | hq
  · exact g
  · cases hq
theorem get_push {h : Heap} {a : Addr} {o o' : Obj} (g : h.get? a = some o) : (h.push o').get? a = some o := Heap.get?_push_of_some _ g

/-- over a list -/
theorem p_list {l : Addr} {ol : Obj} {vs : List Value} {Q : Value → Led → Led → Prop} (hm : (l, ol) ∈ M ++ I) (hl : LO vs ol) (hh : A.handled = none)
    (h : ∀ it o O, (∀ target env, Loop c f A target env it vs.length (fun i v => vs[i]? = some v) O [(l, ol)]) → O 0 o → Q (.ref it) ((it, o) :: M) I) : Te c f A m M I (pyIter (.ref l)) Q E := by
  refine .mk fun s L => wpAny_pyIter_list (L.isList hm hl) ?_
  have hne : l ≠ s.heap.objs.size := Nat.ne_of_lt (Heap.lt_size (L.g hm))
  have hs : ∀ p ∈ [(l, ol)], p.1 ≠ s.heap.objs.size := fun p hp => by
    rcases List.mem_cons.mp hp with rfl | hp
    · exact hne
    · cases hp
  refine ⟨_, _, _, _, rfl, L.pushM _, h _ _ (OfW (fun i h => h.IsListIter s.heap.objs.size l i ∧ h.IsList l vs.toArray) s.heap.objs.size [(l, ol)]) (fun target env => ⟨?_, GoOk.list⟩) ?_⟩
  · refine (ItOk.of (Walks.list hh s.heap.objs.size l hne vs.toArray) (fun b hb => ?_) hs (fun i h st => ?_)).weaken fun i v e => by simpa using e
    · simp only [List.mem_cons, List.not_mem_nil, or_false] at hb
      rcases hb with rfl | rfl
      · exact .inl rfl
      · exact .inr (.head _)
    · obtain ⟨⟨o, ho, _⟩, _⟩ := st; exact ⟨o, ho⟩
  · exact ⟨_, ⟨⟨_, Heap.get?_push_size _ rfl, rfl, rfl⟩, ⟨ol, get_push (L.g hm), hl.1, hl.2⟩⟩, Heap.get?_push_size _ rfl, SrcIn.one (get_push (L.g hm))⟩

/-- a range that is new -/
def RO (n : Int) (o : Obj) : Prop := ∃ t u v, o = { cls := .type "range", data := .fields #[.int 0 t, .int n u, .int 1 v] }
theorem n_range {n : Int} {t : Tok} {Q : Value → Led → Led → Prop} (h : ∀ a o, RO n o → Q (.ref a) M ((a, o) :: I)) : Te c f A m M I (call (.type "range") [.int n t]) Q E :=
  .mk fun s L => call_range_1 ⟨_, _, _, _, rfl, L.push _, h _ _ ⟨_, _, _, rfl⟩⟩
theorem p_range {r : Addr} {ro : Obj} {n : Nat} {Q : Value → Led → Led → Prop} (hm : (r, ro) ∈ M ++ I) (hr : RO (n : Int) ro) (hn : n < 1000000) (hh : A.handled = none)
    (h : ∀ it o O, (∀ target env, NoTuple target → Loop c f A target env it n (fun i v => ∃ t, v = .int (i : Int) t) O []) → O 0 o → Q (.ref it) ((it, o) :: M) I) : Te c f A m M I (pyIter (.ref r)) Q E := by
  refine .mk fun s L => ?_
  obtain ⟨t, u, v, rfl⟩ := hr
  have hsz : Builtin.Range.rangeSize 0 n 1 = (n : Int) := by rw [rangeSize_nat]; omega
  have hr : IsRange s.heap r 0 n 1 t u v := L.g hm
  refine wpAny_pyIter_range hr (small_one (by decide) (by decide) (by omega) (by omega)) ?_
  · refine ⟨_, _, _, _, rfl, L.pushM _, h _ _ (OfW (fun i h => IsRangeIter h s.heap.objs.size (0 + (i : Nat) * 1) ((n : Int) - (i : Nat)) 1) s.heap.objs.size []) (fun target env ht => ⟨?_, GoOk.ofPlain ht⟩) ?_⟩
    · refine (ItOk.of (LCg.range_walks hh 0 n) (fun b hb => .inl (by simpa using hb)) (fun p hp => by cases hp) (fun i h st => ⟨_, st⟩)).weaken fun i v ⟨t, e⟩ => ⟨t, by rw [e]; simp⟩
    · refine ⟨_, ?_, Heap.get?_push_size _ rfl, fun p hp => by cases hp⟩
      rw [hsz]
      exact Heap.get?_push_size _ rfl

/-- over a list, from its end -/
def RevO (l : Addr) (n : Nat) (o : Obj) : Prop := o = revObj l ((n : Int) - 1)
theorem n_reversed {l : Addr} {ol : Obj} {vs : List Value} {Q : Value → Led → Led → Prop} (hm : (l, ol) ∈ M ++ I) (hl : LO vs ol) (h : ∀ a o, RevO l vs.length o → Q (.ref a) ((a, o) :: M) I) : Te c f A m M I (call (.type "reversed") [.ref l]) Q E :=
  .mk fun s L => call_reversed_list (L.isList hm hl) ⟨_, _, _, _, rfl, L.pushM _, h _ _ rfl⟩
theorem p_rev {it l : Addr} {o ol : Obj} {vs : List Value} {Q : Value → Led → Led → Prop} (hm : (l, ol) ∈ M ++ I) (hl : LO vs ol) (ho : RevO l vs.length o) (hh : A.handled = none)
    (h : ∀ O, (∀ target env, NoTuple target → Loop c f A target env it vs.length (fun i v => vs[vs.length - 1 - i]? = some v) O [(l, ol)]) → O 0 o → Q (.ref it) ((it, o) :: M) I) : Te c f A m ((it, o) :: M) I (pyIter (.ref it)) Q E := by
  refine .mk fun s L => ?_
  have hne : l ≠ it := by
    rcases List.mem_append.mp hm with hm | hm
    · intro e
      have := L.ap.1
      rw [List.map_cons, List.nodup_cons] at this
      exact this.1 (List.mem_map.mpr ⟨_, hm, e⟩)
    · exact fun e => L.ap.2 _ (.head _) _ hm e.symm
  have gl := L.g (List.mem_cons_of_mem _ hm)
  have go := L.g (List.mem_append_left _ (.head _))
  have hit : s.heap.IsRevIter it l ((vs.toArray.size : Int) - 1 - ((0 : Nat) : Int)) := ⟨o, go, by rw [ho]; rfl, by rw [ho]; delta revObj; simp⟩
  refine wpAny_pyIter_revIter hit ⟨_, _, _, _, rfl, L, h (OfW (fun i h => i ≤ vs.toArray.size ∧ h.IsRevIter it l ((vs.toArray.size : Int) - 1 - (i : Int)) ∧ h.IsList l vs.toArray) it [(l, ol)]) (fun target env ht => ⟨?_, GoOk.ofPlain ht⟩) ?_⟩
  · refine (ItOk.of (Walks.listRev hh it l hne vs.toArray) (fun b hb => ?_) (fun p hp => ?_) (fun i h st => ?_)).weaken fun i v e => by simpa using e
    · simp only [List.mem_cons, List.not_mem_nil, or_false] at hb
      rcases hb with rfl | rfl
      · exact .inl rfl
      · exact .inr (.head _)
    · rcases List.mem_cons.mp hp with rfl | hp
      · exact hne
      · cases hp
    · obtain ⟨_, ⟨o, ho, _⟩, _⟩ := st; exact ⟨o, ho⟩
  · exact ⟨_, ⟨Nat.zero_le _, hit, ⟨ol, gl, hl.1, hl.2⟩⟩, go, SrcIn.one gl⟩

/-- over bytes -/
theorem p_bytes {b : List UInt8} {t : Tok} {Q : Value → Led → Led → Prop} (hh : A.handled = none)
    (h : ∀ it o O, (∀ target env, NoTuple target → Loop c f A target env it b.length (fun i v => ∃ x u, b[i]? = some x ∧ v = .int (x.toNat : Int) u) O []) → O 0 o → Q (.ref it) ((it, o) :: M) I) : Te c f A m M I (pyIter (.bytes b.toArray t)) Q E := by
  refine .mk fun s L => KBw.pyIter_bytes ⟨_, _, _, _, rfl, L.pushM _, h _ _ (OfW (fun i h => KBw.IsBytesIter h s.heap.objs.size b.toArray t i) s.heap.objs.size []) (fun target env ht => ⟨?_, GoOk.ofPlain ht⟩) ?_⟩
  · refine (ItOk.of (KBw.walks hh s.heap.objs.size b.toArray t) (fun b hb => .inl (by simpa using hb)) (fun p hp => by cases hp) (fun i h st => ?_)).weaken fun i v ⟨x, u, e, e'⟩ => ⟨x, u, by simpa using e, e'⟩
    obtain ⟨o, ho, _⟩ := st; exact ⟨o, ho⟩
  · exact ⟨_, ⟨_, Heap.get?_push_size _ rfl, rfl, rfl⟩, Heap.get?_push_size _ rfl, fun p hp => by cases hp⟩

/-! dicts -/
/-- a dict of keys of one kind, that is not the table of the modules -/
def DD {K : Type} [DecidableEq K] (knd : KeyKind PW c.w K) (d : Addr) (kvs : List (K × Value)) (o : Obj) : Prop := (d == sysModules) = false ∧ o.IsDictOf knd kvs
abbrev DI (c : Wc) (d : Addr) (kvs : List (Int × Value)) (o : Obj) : Prop := DD (c := c) (intKind PW c.w) d kvs o
abbrev DS (c : Wc) (d : Addr) (kvs : List (Str × Value)) (o : Obj) : Prop := DD (c := c) (strKind PW c.w) d kvs o
variable {K : Type} [DecidableEq K] {knd : KeyKind PW c.w K} {d : Addr} {o : Obj} {kvs : List (K × Value)} {k : K} {key v : Value}
theorem DD.nodup (h : DD knd d kvs o) : (kvs.map (·.1)).Nodup := let ⟨_, _, _, _, _, _, _, hn⟩ := h; hn
theorem Live0.dictOf {g h : Heap} (L : Live0 c f g m M I h) (e : (d, o) ∈ M ++ I) (x : DD knd d kvs o) : h.DictOf knd d kvs := Heap.dictOf_iff.mpr ⟨o, L.g e, x.2⟩
theorem Live.dictOf {h : Heap} (L : Live c f m M I h) (e : (d, o) ∈ M ++ I) (x : DD knd d kvs o) : h.DictOf knd d kvs := Heap.dictOf_iff.mpr ⟨o, L.g e, x.2⟩

theorem p_dict {Q : Value → Led → Led → Prop} (hm : (d, o) ∈ M ++ I) (hd : DD knd d kvs o) (hh : A.handled = none)
    (h : ∀ it oi O, (∀ target env, NoTuple target → Loop c f A target env it kvs.length (fun i v => ∃ k x, kvs[i]? = some (k, x) ∧ knd.is k v = true) O [(d, o)]) → O 0 oi → Q (.ref it) ((it, oi) :: M) I) : Te c f A m M I (pyIter (.ref d)) Q E := by
  refine .mk fun s L => ?_
  obtain ⟨ep, ha⟩ := KdkAt.of hd.2
  have hat := ha.dictAt (L.g hm)
  have hne : d ≠ s.heap.objs.size := Nat.ne_of_lt (Heap.lt_size (L.g hm))
  refine wpAny_pyIter_dict hd.1 hat ⟨_, _, _, _, rfl, L.pushM _, h _ _ (OfW (fun i h => h.IsKeyIter s.heap.objs.size d i kvs.length ep ∧ h.DictAt knd d kvs ep) s.heap.objs.size [(d, o)]) (fun target env ht => ⟨?_, GoOk.ofPlain ht⟩) ?_⟩
  · refine (ItOk.of (Walks.dictKeys hh s.heap.objs.size d hne kvs ep) (fun b hb => ?_) (fun p hp => ?_) (fun i h st => ?_))
    · simp only [List.mem_cons, List.not_mem_nil, or_false] at hb
      rcases hb with rfl | rfl
      · exact .inl rfl
      · exact .inr (.head _)
    · rcases List.mem_cons.mp hp with rfl | hp
      · exact hne
      · cases hp
    · obtain ⟨⟨o, ho, _⟩, _⟩ := st; exact ⟨o, ho⟩
  · exact ⟨_, ⟨⟨_, Heap.get?_push_size _ rfl, rfl, rfl⟩, hat.push _⟩, Heap.get?_push_size _ rfl, SrcIn.one (get_push (L.g hm))⟩

theorem d_item {value slice : Expr} {Q : Value → Led → Led → Prop} (hm : (d, o) ∈ M ++ I) (hd : DD knd d kvs o) (hkey : knd.is k key = true) (hl : valueAt kvs k = some v)
    (hs : subscripted slice false (.ref d) key = operate [.ref d, key] (getItem (.ref d) key)) (h : Q v M I) : Te c f A m M I (subscriptTail value slice (.ref d) key) Q E :=
  Te.here (v := v) (fun s R L r => tail_any (kda_dict L.N hm hd.2).typeIs slot_dict_getitem.lookup (wpAny_getItem_of hkey (kda_dict L.N hm hd.2).mapOf hl (r _)) hs) h
theorem d_in {Q : Value → Led → Led → Prop} (hm : (d, o) ∈ M ++ I) (hd : DD knd d kvs o) (hkey : knd.is k key = true) (h : Q (.bool (valueAt kvs k).isSome) M I) : Te c f A m M I (compareOp .In key (.ref d)) Q E :=
  Te.here (fun s R L r => kda_in L.N hm hd.2 hd.1 hkey _ rfl (r _)) h
theorem d_notin {Q : Value → Led → Led → Prop} (hm : (d, o) ∈ M ++ I) (hd : DD knd d kvs o) (hkey : knd.is k key = true) (h : Q (.bool (!(valueAt kvs k).isSome)) M I) : Te c f A m M I (compareOp .NotIn key (.ref d)) Q E :=
  Te.here (fun s R L r => kdg_notin L.N hm hd.2 hd.1 hkey _ rfl (r _)) h
theorem d_mget {pl : Sem Bool} {Q : Value × List Value → Led → Led → Prop} (hm : (d, o) ∈ M ++ I) (hd : DD knd d kvs o) (h : Q (.builtin "dict.get", [.ref d]) M I) : Te c f A m M I (getMethod (.ref d) "get" pl) Q E :=
  Te.here (fun s R L r => kdg_method L.N hm hd.2 (r s.toks)) h
theorem d_get {Q : Value → Led → Led → Prop} (hm : (d, o) ∈ M ++ I) (hd : DD knd d kvs o) (hkey : knd.is k key = true) (h : Q ((valueAt kvs k).getD .none) M I) : Te c f A m M I (call (.builtin "dict.get") [.ref d, key]) Q E :=
  Te.here (fun s R L r => kdg_get1 L.N hm hd.2 hd.1 hkey _ rfl (r _)) h
theorem d_set {M' : Obj → Led} {Q : Unit → Led → Led → Prop} (U : ∀ o', Up d o o' M (M' o')) (hd : DD knd d kvs o) (hkey : knd.is k key = true) (hsz : kvs.length ≤ sizeLine)
    (h : ∀ o', DD knd d (stored kvs k v) o' → Q () (M' o') I) : Te c f A m M I (setItem (.ref d) key v) Q E := .mk fun s L =>
  wpAny_setItem_pairs (hsz := hsz) hkey (L.dictOf (List.mem_append_left _ (U o).mem) hd) fun h' hmm hs => by
    obtain ⟨o', ho', hd'⟩ := Heap.dictOf_iff.mp hmm
    exact ⟨h', _, M' o', I, rfl, L.up (U o') hs ho', h o' ⟨hd.1, hd'⟩⟩
theorem d_mpop {pl : Sem Bool} {Q : Value × List Value → Led → Led → Prop} (hm : (d, o) ∈ M ++ I) (hd : DD knd d kvs o) (h : Q (.builtin "dict.pop", [.ref d]) M I) : Te c f A m M I (getMethod (.ref d) "pop" pl) Q E :=
  Te.here (fun s R L r => kob_method PySem.F.slot_dict_pop PySem.F.type_dict_pop L.N hm hd.2 (r s.toks)) h
theorem d_pop {M' : Obj → Led} {Q : Value → Led → Led → Prop} (U : ∀ o', Up d o o' M (M' o')) (hd : DD knd d kvs o) (hkey : knd.is k key = true) (hpart : (keyPart key).isSome = true) (hargs : argsOk "dict.pop" ⟨[.ref d, key], []⟩) (hl : valueAt kvs k = some v) (hsz : kvs.length ≤ sizeLine)
    (h : ∀ o', DD knd d (without kvs k) o' → Q v (M' o') I) : Te c f A m M I (call (.builtin "dict.pop") [.ref d, key]) Q E := .mk fun s L => by
  have hD := L.dictOf (List.mem_append_left _ (U o).mem) hd
  refine call_meetsIn PySem.F.slot_dict_pop hD.typeIs PySem.F.entry_dict_pop hargs (meets_dict_pop_there knd d hkey [] (.inl rfl) hpart) ⟨kvs, v, hD, hsz, hl, fun h' hmm hs => ?_⟩
  obtain ⟨o', ho', hd'⟩ := Heap.dictOf_iff.mp hmm
  exact ⟨h', _, M' o', I, rfl, L.up (U o') hs ho', h o' ⟨hd.1, hd'⟩⟩
theorem d_new {env : Env} {pos : Pos} {Q : Value → Led → Led → Prop} (h : ∀ a o, DS c a [] o → DI c a [] o → Q (.ref a) ((a, o) :: M) I) : Te c f A m M I (eval (.Dict [] [] pos) env) Q E := .mk fun s ⟨g, L⟩ =>
  Dict_empty_made2 L.F L.N (modules_low L.T.nolimit) fun h' o F' N' lo a b c' e _ => by
    have ap := (L.pushM { cls := .type "dict", data := .dict #[] }).ap
    exact ⟨h', _, (_, o) :: M, I, rfl, ⟨g, ⟨L.B, F', L.X, N', L.T, ⟨ap.1, fun p hp q hq => by
      rcases List.mem_cons.mp hp with rfl | hp
      · exact ap.2 _ (.head _) q hq
      · exact L.ap.2 p hp q hq⟩, L.kd⟩⟩, h _ _ ⟨lo, a⟩ ⟨lo, c'⟩⟩
end



section
variable {c : Wc} {f : Fc} {A : Around} {α β : Type} {m : Loc} {M I : Led} {E : Value → Shared → Prop}

/-! kinds -/
def HasTy (c : Wc) (J : Led) (x t : Value) : Prop := ∃ H, KitX c.K x t H ∧ (∀ h : Heap, (∀ p ∈ J, h.get? p.1 = some p.2) → H h) ∧ x ≠ .builtin "__main__.__loader__#opaque"
theorem HasTy.int {J : Led} {n : Int} {u : Tok} : HasTy c J (.int n u) (.type "int") := ⟨_, kitx_int, fun _ _ => trivial, fun e => nomatch e⟩
theorem HasTy.none {J : Led} : HasTy c J .none (.type "NoneType") := ⟨_, kitx_none, fun _ _ => trivial, fun e => nomatch e⟩
theorem HasTy.dict {J : Led} {a : Addr} {o : Obj} (hm : (a, o) ∈ J) (ho : o.cls = .type "dict") : HasTy c J (.ref a) (.type "dict") := ⟨_, kitx_dict, fun h k => ⟨o, k _ hm, ho⟩, fun e => nomatch e⟩
theorem HasTy.list {J : Led} {a : Addr} {o : Obj} (hm : (a, o) ∈ J) (ho : o.cls = .type "list") : HasTy c J (.ref a) (.type "list") := ⟨_, kitx_list, fun h k => ⟨o, k _ hm, ho⟩, fun e => nomatch e⟩
theorem HasTy.own {J : Led} {x C dx : Addr} {od : Obj} (hx : (x, instObj C dx) ∈ J) (hd : (dx, od) ∈ J) (q1 : plainGet c.K C "__class__" = true) (hdct : hasDictIn c.K C = true) (q2 : findIn c.K (.ref C) "__class__" = some (some (.builtin "object.__class__")))
    (q4 : specialIn c.K (.builtin "object.__class__") "__get__" = some (some (.builtin "getset_descriptor.__get__"))) (q5 : takesIn c.K (.builtin "object.__class__") = some true) (q3 : mroIn c.K C (.type "object") = some true) : HasTy c J (.ref x) (.ref C) :=
  ⟨_, kitx_own q1 hdct q2 q4 q5 q3, fun h k => ⟨k _ hx, rfl, rfl, k _ hd⟩, fun e => nomatch e⟩
theorem HasTy.stream {J : Led} (k : KF c.K) {x dx : Addr} {od : Obj} (hx : (x, instObj 226 dx) ∈ J) (hd : (dx, od) ∈ J) : HasTy c J (.ref x) (.ref 226) := HasTy.own hx hd k.q1_Stream (k.get (n := "head") (by decide +kernel)).dict k.q2_Stream k.q4 k.q5 k.q3_Stream
theorem HasTy.name {J : Led} (k : KF c.K) {x dx : Addr} {od : Obj} (hx : (x, instObj 183 dx) ∈ J) (hd : (dx, od) ∈ J) : HasTy c J (.ref x) (.ref 183) := HasTy.own hx hd k.q1_Name (k.get (n := "text") (by decide +kernel)).dict k.q2_Name k.q4 k.q5 k.q3_Name
theorem r_isi {x t cl : Value} {b : Bool} {Q : Value → Led → Led → Prop} (T : HasTy c (M ++ I) x t) (e : kitOne c.K t cl = some b) (h : Q (.bool b) M I) : Te c f A m M I (call (.builtin "isinstance") [x, cl]) Q E := by
  obtain ⟨H, Z, hH, hx⟩ := T
  exact Te.here (fun s R L r => kia_one Z L.Xh (hH _ fun p hp => L.g hp) e hx fun tk => r tk) h

/-! is, equality of texts -/
theorem c_isnone {v : Value} {Q : Value → Led → Led → Prop} (h : Q (.bool (v == .none)) M I) : Te c f A m M I (compareOp .Is v .none) Q E := Te.here (fun s R L r => is_none_gen (r s.toks)) h
theorem c_isnotnone {v : Value} {Q : Value → Led → Led → Prop} (h : Q (.bool (!(v == .none))) M I) : Te c f A m M I (compareOp .IsNot v .none) Q E := Te.here (fun s R L r => isnot_none_gen (r s.toks)) h
theorem c_eqstr {x y : Str} {t u : Tok} {Q : Value → Led → Led → Prop} (h : Q (.bool (x == y)) M I) : Te c f A m M I (compareOp .Eq (.str x t) (.str y u)) Q E := Te.here (fun s R L r => PyProof.Rows.eq_str (r s.toks)) h
theorem c_nestr {x y : Str} {t u : Tok} {Q : Value → Led → Led → Prop} (h : Q (.bool (x != y)) M I) : Te c f A m M I (compareOp .NotEq (.str x t) (.str y u)) Q E := Te.here (fun s R L r => PyProof.Rows.ne_str (r s.toks)) h
theorem c_eqni {n : Int} {t : Tok} {Q : Value → Led → Led → Prop} (h : Q (.bool false) M I) : Te c f A m M I (compareOp .Eq .none (.int n t)) Q E := Te.here (fun s R L r => PySem.EqNone.eq_none_int (r s.toks)) h

/-! tuples -/
theorem i_tuple {value slice : Expr} {l : Addr} {o : Obj} {vs : List Value} {k : Int} {u : Tok} {v : Value} {Q : Value → Led → Led → Prop} (hm : (l, o) ∈ M ++ I) (hl : TO vs o) (h0 : 0 ≤ k) (hhi : k < 2 ^ 63) (hx : vs[k.toNat]? = some v)
    (hs : subscripted slice false (.ref l) (.int k u) = operate [.ref l, .int k u] (getItem (.ref l) (.int k u))) (h : Q v M I) : Te c f A m M I (subscriptTail value slice (.ref l) (.int k u)) Q E :=
  Te.here (fun s R L r => tail_any (L.isTup hm hl).typeIs slot_tuple_getitem.lookup (getItem_tuple (j := k.toNat) (L.isTup hm hl) (by omega) hhi (by
    have hk : k.toNat < vs.length := by
      rcases Nat.lt_or_ge k.toNat vs.length with h | h
      · exact h
      · rw [List.getElem?_eq_none h] at hx; cases hx
    have e1 : ¬ k < 0 := by omega
    have e2 : (0 ≤ k ∧ k < (vs.length : Int)) := ⟨h0, by omega⟩
    simp [seqIndex?, e1, e2]) (by simpa using hx) (r s.toks)) hs) h
theorem c_instrs {l : Addr} {o : Obj} {vs : List Value} {ys : List Str} {k : Str} {t : Tok} {Q : Value → Led → Led → Prop} (hm : (l, o) ∈ M ++ I) (hl : TO vs o) (hi : StrsAre vs ys) (h : Q (.bool (ys.any (· == k))) M I) : Te c f A m M I (compareOp .In (.str k t) (.ref l)) Q E :=
  Te.here (fun s R L r => SeqAt.in_tupleAt (isStrOf k) (L.isTup hm hl) (fun y hy => (eq_isStrOf k t hi y (by simpa using hy)).at _ _) (by rw [← Array.any_toList, show vs.toArray.toList = vs from rfl, any_isStrOf k hi]; exact r s.toks)) h
theorem c_notinK {l : Addr} {o : Obj} {vs : List Value} {ys : List Str} {k : Str} {t : Tok} {Q : Value → Led → Led → Prop} (hk : c.K.lookup l = some o) (hl : TO vs o) (hi : StrsAre vs ys) (h : Q (.bool (!(ys.any (· == k)))) M I) : Te c f A m M I (compareOp .NotIn (.str k t) (.ref l)) Q E :=
  Te.here (fun s R L r => SeqAt.notIn_tupleAt (isStrOf k) (⟨o, L.Xh _ _ hk, hl.1, hl.2⟩ : s.heap.IsTuple l vs.toArray) (fun y hy => (eq_isStrOf k t hi y (by simpa using hy)).at _ _) (by rw [← Array.any_toList, show vs.toArray.toList = vs from rfl, any_isStrOf k hi]; exact r s.toks)) h
theorem t_of {l : Addr} {o : Obj} {vs : List Value} {Q : Value → Led → Led → Prop} (hm : (l, o) ∈ M ++ I) (hl : LO vs o) (hz : vs.length ≤ sizeLine) (h : ∀ a o', TO vs o' → Q (.ref a) M ((a, o') :: I)) : Te c f A m M I (call (.type "tuple") [.ref l]) Q E :=
  .mk fun s L => call_tuple_list (L.isList hm hl) (fun h' hk => ⟨_, _, _, _, rfl, (L.keep hk).push _, h _ _ ⟨rfl, 0, rfl⟩⟩) (by simpa using hz)
theorem o_addT {a b : Addr} {oa ob : Obj} {vs ws : List Value} {Q : Value → Led → Led → Prop} (ha : (a, oa) ∈ M ++ I) (hb : (b, ob) ∈ I) (xa : TO vs oa) (xb : TO ws ob) (hv : vs ≠ []) (hai : (a, oa) ∈ I) (hz : vs.length + ws.length ≤ sizeLine)
    (h : ∀ d o' I', TO (vs ++ ws) o' → (∀ p ∈ I, p ∈ I') → (d, o') ∈ I' → Q (.ref d) M I') : Te c f A m M I (binaryOp .Add (.ref a) (.ref b)) Q E := .mk fun s ⟨g, L⟩ => by
  refine add_tuples L.F L.N (L.isTup ha xa) (L.isTup (List.mem_append_right _ hb) xb) (fun e => absurd e hv) (fun _ e => ?_) (fun _ _ h' F' N' => ?_) hz
  · subst e
    exact ⟨_, _, _, _, rfl, ⟨g, L⟩, h a oa I (by simpa using xa) (fun p hp => hp) hai⟩
  · have L2 := L.push { cls := .type "tuple", data := .seq (vs ++ ws).toArray }
    exact ⟨h', _, M, _, rfl, ⟨g, ⟨L.B, F', L.X, fun p hp => N' p (by
      simp only [List.mem_append, List.mem_cons] at hp ⊢
      rcases hp with h | h | h
      · exact .inr (.inl h)
      · exact .inl h
      · exact .inr (.inr h)), L.T, L2.ap, L.kd⟩⟩, h _ _ _ ⟨rfl, 0, rfl⟩ (fun p hp => .tail _ hp) (.head _)⟩

/-! lists -/
theorem l_of {l : Addr} {o : Obj} {vs : List Value} {Q : Value → Led → Led → Prop} (hm : (l, o) ∈ M ++ I) (hl : LO vs o) (hz : vs.length ≤ sizeLine) (h : ∀ a o', LO vs o' → Q (.ref a) ((a, o') :: M) I) : Te c f A m M I (call (.type "list") [.ref l]) Q E := .mk fun s ⟨g, L⟩ => by
  obtain ⟨hc, n, hd⟩ := hl
  refine call_list_seq l (T := "list") (.inl rfl) (L.g hm) hc hd (fun h' c' hk hg => ?_) (by simpa using hz)
  have F' := L.F.keeps hk
  have ap := (L.pushM { cls := .type "list", data := .seq vs.toArray }).ap
  exact ⟨h', _, (_, _) :: M, I, rfl, ⟨g, ⟨L.B, F', L.X, news_pushed L.F L.N hk hg rfl, L.T, ⟨ap.1, fun p hp q hq => by
      rcases List.mem_cons.mp hp with rfl | hp
      · exact ap.2 _ (.head _) q hq
      · exact L.ap.2 p hp q hq⟩, L.kd⟩⟩, h _ _ ⟨rfl, c', rfl⟩⟩
def TrueList (vs : List Value) (o : Obj) : Prop := ∃ n, o = { cls := .type "list", dict := none, data := .seq vs.toArray n, slots := #[] }
theorem b_none {Q : Bool → Led → Led → Prop} (h : Q false M I) : Te c f A m M I (truthy .none) Q E := .mk fun s L => wpAny_pure ⟨s.heap, s.toks, M, I, rfl, L, h⟩

/-! sorting -/
theorem Live0.pushed {g h h' : Heap} {a : Addr} {o : Obj} (L : Live0 c f g m M I h) (F' : Fr g f.L h' (lk m)) (N' : News g f.L h' ((a, o) :: (M ++ I))) (lt : ∀ p ∈ M ++ I, p.1 ≠ a) : Live0 c f g m ((a, o) :: M) I h' :=
  ⟨L.B, F', L.X, N', L.T, ⟨by
    rw [List.map_cons, List.nodup_cons]
    refine ⟨fun hm => ?_, L.ap.1⟩
    obtain ⟨p, hp, e⟩ := List.mem_map.mp hm
    exact lt p (List.mem_append_left _ hp) e, fun p hp q hq => by
    rcases List.mem_cons.mp hp with rfl | hp
    · exact fun e => lt q (List.mem_append_right _ hq) e.symm
    · exact L.ap.2 p hp q hq⟩, L.kd⟩
theorem Live0.lt {g h : Heap} (L : Live0 c f g m M I h) (k : Nat) : ∀ p ∈ M ++ I, p.1 ≠ h.objs.size + k := fun p hp => Nat.ne_of_lt (Nat.lt_of_lt_of_le (Heap.lt_size (L.N p hp).1) (Nat.le_add_right _ _))
theorem seq_LO {vs : List Value} {e : Nat} : LO vs (seqObj "list" vs.toArray e) := ⟨rfl, e, rfl⟩
theorem k_sortedI {l : Addr} {o : Obj} {vs : List Value} {ns : List Int} {Q : Value → Led → Led → Prop} (hm : (l, o) ∈ M ++ I) (hl : LO vs o) (hi : IntsAre vs ns) (h64 : vs.length < 64)
    (h : ∀ a o' vs' ns', LO vs' o' → IntsAre vs' ns' → ns'.Perm ns → ns'.Pairwise (· ≤ ·) → Q (.ref a) ((a, o') :: M) I) : Te c f A m M I (call (.builtin "sorted") [.ref l]) Q E := .mk fun s ⟨g, L⟩ =>
  sorted_N L.F L.N (L.isList hm hl) hi h64 fun h' vs' ns' e F' N' i p w => ⟨h', _, _, I, rfl, ⟨g, L.pushed F' N' (L.lt 1)⟩, h _ _ _ _ seq_LO i p w⟩
/-- the keys of a dict, sorted -/
theorem k_sortedDI {d : Addr} {o : Obj} {kvs : List (Int × Value)} {Q : Value → Led → Led → Prop} (hm : (d, o) ∈ M ++ I) (hd : DI c d kvs o) (hh : A.handled = none) (h64 : kvs.length < 64)
    (h : ∀ a o' vs' ns', LO vs' o' → IntsAre vs' ns' → ns'.Perm (kvs.map (·.1)) → ns'.Pairwise (· ≤ ·) → Q (.ref a) ((a, o') :: M) I) : Te c f A m M I (call (.builtin "sorted") [.ref d]) Q E := by
  refine .mk fun s ⟨g, L⟩ => ?_
  obtain ⟨ep, ha⟩ := KdkAt.of hd.2
  have hat := ha.dictAt (L.g hm)
  refine kdu_sorted (kdl_dict (knd := intKind PW c.w) (kvs := kvs) (ep := ep) hd.1) hh L.F L.N hat (by rw [sizeLine_eq]; omega) fun B h' tk vs F' N' l1 hl hv => ?_
  have L2 := L.pushed F' N' (fun p hp => Nat.ne_of_lt (l1 p hp))
  have hI : IntsAre vs (kvs.map (·.1)) := by
    have : ∀ (ks : List (Int × Value)) (us : List Value), us.length = ks.length → (∀ (j : Nat) (u : Value), us[j]? = some u → ∃ k x, ks[j]? = some (k, x) ∧ (intKind PW c.w).is k u = true) → IntsAre us (ks.map (·.1)) := by
      intro ks
      induction ks with
      | nil => intro us h1 _; rw [List.eq_nil_of_length_eq_zero h1]; exact .nil
      | cons q r ih =>
        intro us h1 h2
        cases us with
        | nil => cases h1
        | cons u us =>
          obtain ⟨k, x, e1, e2⟩ := h2 0 u rfl
          cases e1
          cases u with
          | int n t =>
            have e3 : n = k := by simpa [intKind, Value.isInt] using e2
            subst e3
            exact .cons _ _ (ih us (by simpa using h1) fun j u hu => by simpa using h2 (j + 1) u (by simpa using hu))
          | _ => simp [intKind, Value.isInt] at e2
    exact this kvs vs hl hv
  have go : h'.get? B = some (seqObj "list" vs.toArray 0) := L2.gM (.head _)
  refine wpAny_call_entry PyProof.Rows.slot_list_sort ⟨_, go, rfl⟩ PyProof.Rows.entry_list_sort (list_sort_tree (n := 0) (vs := vs) go hI (by rw [hl]; exact h64) fun out ns' hI' hp hP => ⟨.none, rfl, ?_⟩) (PyProof.Rows.args_list_sort _)
  obtain ⟨e, he⟩ := sortedHeap_at (out := out) go
  have ex : Heap.ExtBut B h' (sortedHeap h' B vs out) := fun b o hb e => (sortedHeap_old hb (Heap.lt_size e)).trans e
  exact ⟨_, tk, (B, _) :: M, I, rfl, ⟨g, L2.upE .head ex he⟩, h B (seqObj "list" out e) out.toList ns' seq_LO hI' hp hP⟩
theorem k_sortedDS {d : Addr} {o : Obj} {kvs : List (Str × Value)} {Q : Value → Led → Led → Prop} (hm : (d, o) ∈ M ++ I) (hd : DS c d kvs o) (hh : A.handled = none) (h64 : kvs.length < 64)
    (h : ∀ a o' vs' ss', LO vs' o' → StrsAre vs' ss' → ss'.Perm (kvs.map (·.1)) → sortedS ss' = true → Q (.ref a) ((a, o') :: M) I) : Te c f A m M I (call (.builtin "sorted") [.ref d]) Q E := by
  refine .mk fun s ⟨g, L⟩ => ?_
  obtain ⟨ep, ha⟩ := KdkAt.of hd.2
  have hat := ha.dictAt (L.g hm)
  refine kdu_sorted (kdl_dict (knd := PySem.strKind PW c.w) (kvs := kvs) (ep := ep) hd.1) hh L.F L.N hat (by rw [sizeLine_eq]; omega) fun B h' tk vs F' N' l1 hl hv => ?_
  have L2 := L.pushed F' N' (fun p hp => Nat.ne_of_lt (l1 p hp))
  have hI : StrsAre vs (kvs.map (·.1)) := by
    have : ∀ (ks : List (Str × Value)) (us : List Value), us.length = ks.length → (∀ (j : Nat) (u : Value), us[j]? = some u → ∃ k x, ks[j]? = some (k, x) ∧ (PySem.strKind PW c.w).is k u = true) → StrsAre us (ks.map (·.1)) := by
      intro ks
      induction ks with
      | nil => intro us h1 _; rw [List.eq_nil_of_length_eq_zero h1]; exact .nil
      | cons q r ih =>
        intro us h1 h2
        cases us with
        | nil => cases h1
        | cons u us =>
          obtain ⟨k, x, e1, e2⟩ := h2 0 u rfl
          cases e1
          cases u with
          | str n t =>
            have e3 : n = k := by simpa [PySem.strKind, Value.isStrOf] using e2
            subst e3
            exact .cons _ _ (ih us (by simpa using h1) fun j u hu => by simpa using h2 (j + 1) u (by simpa using hu))
          | _ => simp [PySem.strKind, Value.isStrOf] at e2
    exact this kvs vs hl hv
  have go : h'.get? B = some (seqObj "list" vs.toArray 0) := L2.gM (.head _)
  refine wpAny_call_entry PyProof.Rows.slot_list_sort ⟨_, go, rfl⟩ PyProof.Rows.entry_list_sort (list_sort_treeK strKind_oneLt (n := 0) (vs := vs) go hI.keysOf (fun v₁ v₂ rest e => keyKind_strs (by rw [← e]; exact hI)) (by rw [hl]; exact h64) fun st' hp hP => ⟨.none, rfl, ?_⟩) (PyProof.Rows.args_list_sort _)
  obtain ⟨ss', a1, a2, a3⟩ := sorted_out_str hI hp hP
  revert a1
  generalize (arrOf st').map (·.2) = out
  intro a1
  obtain ⟨e, he⟩ := sortedHeap_at (out := out) go
  have ex : Heap.ExtBut B h' (sortedHeap h' B vs out) := fun b o hb e => (sortedHeap_old hb (Heap.lt_size e)).trans e
  exact ⟨_, tk, (B, _) :: M, I, rfl, ⟨g, L2.upE .head ex he⟩, h B (seqObj "list" out e) out.toList ss' seq_LO a1 a2 a3⟩

/-! dict displays, copies -/
theorem e_dict {env : Env} {keys : List (Option Expr)} {values : List Expr} {pos : Pos} {Q : Value → Led → Led → Prop} (hall : keys.all (·.isSome) = true) (hl : keys.length = values.length) (h0 : keys ≠ []) (hlen : keys.length ≤ 15)
    (h : ∀ d o, DS c d [] o → Te c f A m ((d, o) :: M) I (evalPairs (pairTrees keys values env pos)) (fun vs M' I' => ∃ o1 M1, M' = (d, o1) :: M1 ∧ DS c d [] o1 ∧ allStrKeys vs = true ∧ ((strPairs vs).map (·.1)).Nodup ∧ ∀ o', DS c d (strPairs vs) o' → Q (.ref d) ((d, o') :: M1) I') E) :
    Te c f A m M I (eval (.Dict keys values pos) env) Q E := by
  refine .mk fun s ⟨g, L⟩ => kdn_eval (knd := PySem.strKind PW c.w) L.F L.N L.T.nolimit hall hl h0 hlen fun d h' o F' N' l1 lo hd => ?_
  have L2 := L.pushed F' N' (fun p hp => Nat.ne_of_lt (l1 p hp))
  refine wpAny_mono ((h d o ⟨lo, hd⟩).run { s with heap := h' } ⟨g, L2⟩) (fun vs s1 q => ?_) fun _ _ e => e
  obtain ⟨h1, t1, M', I', rfl, L3, o1, M1, rfl, hd1, hk, hn, q⟩ := q
  refine display_done_str hk hn (Heap.dictOf_iff.mpr ⟨o1, L3.gM (.head _), hd1.2⟩) fun h2 hmm hs => ?_
  obtain ⟨o', ho', hd'⟩ := Heap.dictOf_iff.mp hmm
  exact ⟨h2, _, _, I', rfl, L3.up .head hs ho', q o' ⟨lo, hd'⟩⟩
theorem ep_nil {env : Env} {pos : Pos} {Q : List (Value × Value) → Led → Led → Prop} (h : Q [] M I) : Te c f A m M I (evalPairs (pairTrees [] [] env pos)) Q E := .mk fun s L => pairTrees_nil_walk ⟨s.heap, s.toks, M, I, rfl, L, h⟩
theorem ep_cons {env : Env} {k v : Expr} {ks : List (Option Expr)} {vs : List Expr} {pos : Pos} {Q : List (Value × Value) → Led → Led → Prop}
    (h : Te c f A m M I (eval k env) (kE c f A m E v env (kPairs c f A m E pos ks vs env Q)) E) :
    Te c f A m M I (evalPairs (pairTrees (some k :: ks) (v :: vs) env pos)) Q E :=
  .mk fun s L => pairTrees_cons_walk (h.step L fun a h1 t1 M1 I1 L1 q => Te.step (s := { s with heap := h1, toks := t1 }) q L1 fun b h2 t2 M2 I2 L2 q => Te.step (s := { s with heap := h2, toks := t2 }) q L2 fun r h3 t3 M3 I3 L3 q => ⟨h3, t3, M3, I3, rfl, L3, q⟩)
theorem d_of {d : Addr} {o : Obj} {kvs : List (Str × Value)} {Q : Value → Led → Led → Prop} (hm : (d, o) ∈ M ++ I) (hd : DS c d kvs o) (hz : kvs.length ≤ sizeLine) (h : ∀ a o', DS c a kvs o' → Q (.ref a) ((a, o') :: M) I) : Te c f A m M I (call (.type "dict") [.ref d]) Q E := by
  refine .mk fun s ⟨g, L⟩ => kt_call_dict hd.1 (L.dictOf hm hd) hz fun h' hmm hs => ?_
  obtain ⟨o', ho', hd'⟩ := Heap.dictOf_iff.mp hmm
  have L2 := (L.pushM { cls := .type "dict", data := .dict #[] }).up .head hs ho'
  exact ⟨h', s.toks, _, I, rfl, ⟨g, L2⟩, h _ _ ⟨L.F.notModules (modules_low L.T.nolimit), hd'⟩⟩

/-! numbers -/
theorem n_intint {n : Int} {t : Tok} {Q : Value → Led → Led → Prop} (h : Q (.int n t) M I) : Te c f A m M I (call (.type "int") [.int n t]) Q E := Te.here (fun s R L r => call_int_int (r s.toks)) h
theorem n_intbool {b : Bool} {Q : Value → Led → Led → Prop} (h : ∀ t, Q (.int (if b then 1 else 0) t) M I) : Te c f A m M I (call (.type "int") [.bool b]) Q E := Te.toks fun s R L r => call_int_bool (r _ _ (h _))
theorem n_lenb {b : List UInt8} {t : Tok} {Q : Value → Led → Led → Prop} (hz : b.length ≤ 1000000) (h : ∀ t, Q (.int (b.length : Nat) t) M I) : Te c f A m M I (call (.builtin "len") [.bytes b.toArray t]) Q E :=
  Te.toks fun s R L r => KBw.len_K (ks := KBw.bInts b.toArray) rfl (by rw [KBw.ints_length]; simp; omega) (r _ _ (by rw [KBw.ints_length]; simpa using h _))
theorem n_bytes {l : Addr} {o : Obj} {vs : List Value} {ns : List Int} {Q : Value → Led → Led → Prop} (hm : (l, o) ∈ M ++ I) (hl : LO vs o) (hi : IntsAre vs ns) (hr : ∀ n ∈ ns, 0 ≤ n ∧ n < 256) (hz : vs.length ≤ sizeLine) (hh : A.handled = none)
    (h : ∀ t, Q (.bytes (ns.map fun n => n.toNat.toUInt8).toArray t) M I) : Te c f A m M I (call (.type "bytes") [.ref l]) Q E :=
  .mk fun s L => call_bytes_ints (L.isList hm hl) hi hr hz hh fun h' t k hk => ⟨h', k, M, I, rfl, L.keep hk, h _⟩
end



/-! entries frozen and dropped behind a tree -/
def Shed (M I M' I' : Led) : Prop := ∀ (c : Wc) (f : Fc) (m : Loc) (h : Heap), Live c f m M I h → Live c f m M' I' h
theorem Shed.refl {M I : Led} : Shed M I M I := fun _ _ _ _ L => L
theorem Shed.trans {M I M' I' M2 I2 : Led} (a : Shed M I M' I') (b : Shed M' I' M2 I2) : Shed M I M2 I2 := fun c f m h L => b c f m h (a c f m h L)
theorem Shed.drop {M I M' : Led} {d : Addr} {o : Obj} (D : Del d o M M') : Shed M I M' I := fun _ _ _ _ L => L.drop D
theorem Shed.freeze {M I M' : Led} {d : Addr} {o : Obj} (D : Del d o M M') : Shed M I M' ((d, o) :: I) := fun _ _ _ _ L => L.freeze D
theorem Shed.sub {M I I' : Led} (h : I' ⊆ I) : Shed M I M I' := fun _ _ _ _ L => L.sub h

section
variable {c : Wc} {f : Fc} {A : Around} {α β : Type} {m : Loc} {M I M' I' : Led} {E : Value → Shared → Prop}
theorem Te.shed {t : Sem α} {Q : α → Led → Led → Prop} (g : Shed M I M' I') (h : Te c f A m M' I' t Q E) : Te c f A m M I t Q E := .mk fun s L => h.run s (g _ _ _ _ L)
theorem Ts.shed {t : Sem α} {Q : α → Loc → Led → Led → Prop} (g : Shed M I M' I') (h : Ts c f A m M' I' t Q E) : Ts c f A m M I t Q E := .mk fun s L => h.run s (g _ _ _ _ L)
def Post {α : Type} (Q : α → Led → Led → Prop) (v : α) (M I : Led) : Prop := ∃ M' I', Shed M I M' I' ∧ Q v M' I'
theorem Post.of {Q : α → Led → Led → Prop} {v : α} (h : Q v M I) : Post Q v M I := ⟨M, I, Shed.refl, h⟩
theorem Post.shed {Q : α → Led → Led → Prop} {v : α} (g : Shed M I M' I') (h : Post Q v M' I') : Post Q v M I := let ⟨M2, I2, g2, q⟩ := h; ⟨M2, I2, g.trans g2, q⟩
theorem Te.post {t : Sem α} {Q : α → Led → Led → Prop} (h : Te c f A m M I t (Post Q) E) : Te c f A m M I t Q E :=
  .mk fun s L => wpAny_mono (h.run s L) (fun v s' ⟨h', tk, M', I', e, L', M2, I2, g, q⟩ => ⟨h', tk, M2, I2, e, g _ _ _ _ L', q⟩) fun _ _ e => e
theorem Ts.post {t : Sem Flow} {Q : Value → Led → Led → Prop} (h : Ts c f A m M I t (fun fl m' M' I' => Post Q (retOf fl) M' I') E) : Ts c f A m M I t (fun fl m' M' I' => Q (retOf fl) M' I') E :=
  .mk fun s L => wpAny_mono (h.run s L) (fun v s' ⟨h', tk, m', M', I', e, L', M2, I2, g, q⟩ => ⟨h', tk, m', M2, I2, e, g _ _ _ _ L', q⟩) fun _ _ e => e
theorem Cd.post {k : Code} {Q : Value → Led → Led → Prop} (h : Cd c f A m M I k (Post Q) E) : Cd c f A m M I k Q E :=
  .mk fun s L => codeAny_mono (h.run s L) fun r s' q => by
    rcases r with e | (_ | _ | _ | _) <;> first | exact q | (obtain ⟨h', tk, M', I', e, L', M2, I2, g, q⟩ := q; exact ⟨h', tk, M2, I2, e, g _ _ _ _ L', q⟩)
theorem Fn.post {r : Nat} {g : Value} {args : List Value} {Q : Value → Led → Led → Prop} (h : Fn c r g args M I (Post Q)) : Fn c r g args M I Q := .mk fun f A m E ar => (h.run f A m E ar).post
/-- a value of a call, handed on with the entries that the caller wants -/
theorem Fn.cd {r r' : Nat} {g : Value} {args : List Value} {Q Q' : Value → Led → Led → Prop} (h : Fn c r g args M I Q) (a : Ar f A r') (hr : r' ≤ r) (hr' : r ≤ 100) (hq : ∀ v M' I', Q v M' I' → Q' v M' I') : Cd c f A m M I (.call g ⟨args, []⟩) Q' E :=
  (h.run f A m E (a.up hr hr')).mono hq
theorem Fn.weaken {r r' : Nat} {g : Value} {args : List Value} {Q : Value → Led → Led → Prop} (h : Fn c r g args M I Q) (hr : r' ≤ r) (hr' : r ≤ 100 := by decide) : Fn c r' g args M I Q := .mk fun f A m E ar => h.run f A m E (ar.up hr hr')
theorem Fn.mono {r : Nat} {g : Value} {args : List Value} {Q Q' : Value → Led → Led → Prop} (h : Fn c r g args M I Q) (hq : ∀ v M' I', Q v M' I' → Q' v M' I') : Fn c r g args M I Q' := .mk fun f A m E ar => (h.run f A m E ar).mono hq

theorem ite_t {X Y : Prop} (h : X) : if true = true then X else Y := by rw [if_pos rfl]; exact h
theorem ite_f {X Y : Prop} (h : Y) : if false = true then X else Y := by rw [if_neg Bool.false_ne_true]; exact h
theorem c_isnone_no {v : Value} {Q : Value → Led → Led → Prop} (e : (v == .none) = false) (h : Q (.bool false) M I) : Te c f A m M I (compareOp .Is v .none) Q E := c_isnone (by rw [e]; exact h)
theorem c_isnone_yes {Q : Value → Led → Led → Prop} (h : Q (.bool true) M I) : Te c f A m M I (compareOp .Is .none .none) Q E := c_isnone h
theorem c_isnot_no {v : Value} {Q : Value → Led → Led → Prop} (e : (v == .none) = false) (h : Q (.bool true) M I) : Te c f A m M I (compareOp .IsNot v .none) Q E := c_isnotnone (by rw [e]; exact h)
theorem c_isnot_yes {Q : Value → Led → Led → Prop} (h : Q (.bool false) M I) : Te c f A m M I (compareOp .IsNot .none .none) Q E := c_isnotnone h
theorem c_eqstr_t {x y : Str} {t u : Tok} {Q : Value → Led → Led → Prop} (e : (x == y) = true) (h : Q (.bool true) M I) : Te c f A m M I (compareOp .Eq (.str x t) (.str y u)) Q E := c_eqstr (by rw [e]; exact h)
theorem c_eqstr_f {x y : Str} {t u : Tok} {Q : Value → Led → Led → Prop} (e : (x == y) = false) (h : Q (.bool false) M I) : Te c f A m M I (compareOp .Eq (.str x t) (.str y u)) Q E := c_eqstr (by rw [e]; exact h)
theorem c_nestr_t {x y : Str} {t u : Tok} {Q : Value → Led → Led → Prop} (e : (x != y) = true) (h : Q (.bool true) M I) : Te c f A m M I (compareOp .NotEq (.str x t) (.str y u)) Q E := c_nestr (by rw [e]; exact h)
theorem c_nestr_f {x y : Str} {t u : Tok} {Q : Value → Led → Led → Prop} (e : (x != y) = false) (h : Q (.bool false) M I) : Te c f A m M I (compareOp .NotEq (.str x t) (.str y u)) Q E := c_nestr (by rw [e]; exact h)

/-! attributes of instances -/
theorem Look.find {x : Str} {v : Value} : ∀ {m : List (Str × Value)}, Look x v m → (m.find? (fun p => p.1 == x)).map (·.2) = some v
  | _, .here => by simp
  | _, .there h r => by rw [List.find?_cons, h]; exact r.find
theorem g_ownL {x C dx : Addr} {od : Obj} {kvs : List (Str × Value)} {name : Str} {v : Value} {b : Bool} {Q : Value → Led → Led → Prop} (hx : (x, instObj C dx) ∈ I) (hd : (dx, od) ∈ I) (hs : SD c kvs od) (ok : GetOk c.K C name)
    (hl : Look name v kvs) (hv : handedIn v = true) (h : Q v M I) : Te c f A m M I (getAttr (.ref x) name b) Q E := g_own hx hd hs ok hl.find hv h
/-- an object of a class, its attributes by their names -/
structure Inst (c : Wc) (I : Led) (C : Addr) (kvs : List (Str × Value)) (x : Addr) : Prop where
  ex : ∃ dx od, (x, instObj C dx) ∈ I ∧ (dx, od) ∈ I ∧ SD c kvs od
theorem Inst.mono {C : Addr} {kvs : List (Str × Value)} {x : Addr} (h : Inst c I C kvs x) (hs : I ⊆ I') : Inst c I' C kvs x := let ⟨dx, od, a, b, d⟩ := h.ex; ⟨dx, od, hs a, hs b, d⟩
theorem Inst.get {x C : Addr} {kvs : List (Str × Value)} {name : Str} {v : Value} {b : Bool} {Q : Value → Led → Led → Prop} (i : Inst c I C kvs x) (ok : GetOk c.K C name) (hl : Look name v kvs) (hv : handedIn v = true) (h : Q v M I) : Te c f A m M I (getAttr (.ref x) name b) Q E :=
  let ⟨_, _, a, b, d⟩ := i.ex; g_ownL a b d ok hl hv h
theorem Inst.meth {x C fa : Addr} {kvs : List (Str × Value)} {name : Str} {pl : Sem Bool} {Q : Value × List Value → Led → Led → Prop} (i : Inst c I C kvs x)
    (hp : plainGet c.K C name = true) (hf : findIn c.K (.ref C) name = some (some (.ref fa))) (ht : isFn c.K (.ref fa) = true) (hl : (kvs.find? (fun p => p.1 == name)).isNone = true) (h : Q (.ref fa, [.ref x]) M I) : Te c f A m M I (getMethod (.ref x) name pl) Q E :=
  let ⟨_, _, a, b, d⟩ := i.ex; g_meth a b d hp hf ht (by simpa using hl) h
theorem Inst.stream (k : KF c.K) {x : Addr} {kvs : List (Str × Value)} (i : Inst c I 226 kvs x) : HasTy c (M ++ I) (.ref x) (.ref 226) := let ⟨_, _, a, b, _⟩ := i.ex; HasTy.stream k (List.mem_append_right _ a) (List.mem_append_right _ b)
theorem Inst.name (k : KF c.K) {x : Addr} {kvs : List (Str × Value)} (i : Inst c I 183 kvs x) : HasTy c (M ++ I) (.ref x) (.ref 183) := let ⟨_, _, a, b, _⟩ := i.ex; HasTy.name k (List.mem_append_right _ a) (List.mem_append_right _ b)
theorem u_pair {env : Env} {x y : Str} {p1 p2 pos : Pos} {k : Nat} {t : Addr} {o : Obj} {v1 v2 : Value} {Q : Unit → Loc → Led → Led → Prop} (hh : A.handled = none) (ht : (t, o) ∈ I) (hx : TO [v1, v2] o)
    (h : Ts c f A m M I (assign (.Name x p1) env v1) (kAs2 c f A E (.Name y p2) env v2 Q) E) : Ts c f A m M I (assign (.Tuple [.Name x p1, .Name y p2] k pos) env (.ref t)) Q E := by
  refine u_tuple hh ht hx.1 hx.2.choose_spec rfl rfl ?_
  have e : (assignEach [.Name x p1, .Name y p2] env).map (·.2) = [assign (.Name x p1) env, assign (.Name y p2) env] := rfl
  rw [e]
  exact u_cons (h.mono fun _ m M I q => u_cons (q.mono fun _ m M I q => u_nil q))
theorem SD.nil {n : Nat} : SD c [] (dictOf [] n) := ⟨[], n, rfl, .nil⟩
end



/-! what the law's values are -/
inductive Lf where
  | num (n : Int)
  | nm (s : Str)
inductive Vl where
  | num (n : Int)
  | dic (kvs : List (Str × Lf))
  | stm (kvs : List (Str × Lf)) (b : List UInt8)
inductive Tr where
  | int (n : Int)
  | str (s : Str)
  | byt (b : List UInt8)
  | tup (ts : List Tr)

section
variable (c : Wc) (I : Led)
def LfIs : Lf → Value → Prop
  | .num n, v => ∃ t, v = .int n t
  | .nm s, v => ∃ x t, v = .ref x ∧ Inst c I 183 [("text", .str s t)] x
inductive KvIs : List (Str × Lf) → List (Str × Value) → Prop
  | nil : KvIs [] []
  | cons {k : Str} {l : Lf} {v : Value} {r : List (Str × Lf)} {r' : List (Str × Value)} : LfIs c I l v → KvIs r r' → KvIs ((k, l) :: r) ((k, v) :: r')
def DicIs (kvs : List (Str × Lf)) (a : Addr) : Prop := ∃ o kvs', (a, o) ∈ I ∧ DS c a kvs' o ∧ KvIs c I kvs kvs'
def VlIs : Vl → Value → Prop
  | .num n, v => ∃ t, v = .int n t
  | .dic kvs, v => ∃ a, v = .ref a ∧ DicIs c I kvs a
  | .stm kvs b, v => ∃ x a t, v = .ref x ∧ Inst c I 226 [("head", .ref a), ("octets", .bytes b.toArray t)] x ∧ DicIs c I kvs a
mutual
inductive TIs : Tr → Value → Prop
  | int {n : Int} {t : Tok} : TIs (.int n) (.int n t)
  | str {s : Str} {t : Tok} : TIs (.str s) (.str s t)
  | byt {b : List UInt8} {t : Tok} : TIs (.byt b) (.bytes b.toArray t)
  | tup {ts : List Tr} {a : Addr} {o : Obj} {vs : List Value} : (a, o) ∈ I → TO vs o → TIss ts vs → TIs (.tup ts) (.ref a)
inductive TIss : List Tr → List Value → Prop
  | nil : TIss [] []
  | cons {t : Tr} {v : Value} {ts : List Tr} {vs : List Value} : TIs t v → TIss ts vs → TIss (t :: ts) (v :: vs)
end
end

section
variable {c : Wc} {I I' : Led} (hs : I ⊆ I')
include hs
theorem LfIs.mono {l : Lf} {v : Value} (h : LfIs c I l v) : LfIs c I' l v := by
  cases l with
  | num n => exact h
  | nm s => obtain ⟨x, t, e, i⟩ := h; exact ⟨x, t, e, i.mono hs⟩
theorem KvIs.mono {kvs : List (Str × Lf)} {kvs' : List (Str × Value)} (h : KvIs c I kvs kvs') : KvIs c I' kvs kvs' := by
  induction h with
  | nil => exact .nil
  | cons h _ ih => exact .cons (h.mono hs) ih
theorem DicIs.mono {kvs : List (Str × Lf)} {a : Addr} (h : DicIs c I kvs a) : DicIs c I' kvs a := let ⟨o, kvs', a, b, d⟩ := h; ⟨o, kvs', hs a, b, d.mono hs⟩
theorem VlIs.mono {l : Vl} {v : Value} (h : VlIs c I l v) : VlIs c I' l v := by
  cases l with
  | num n => exact h
  | dic kvs => obtain ⟨a, e, d⟩ := h; exact ⟨a, e, d.mono hs⟩
  | stm kvs b => obtain ⟨x, a, t, e, i, d⟩ := h; exact ⟨x, a, t, e, i.mono hs, d.mono hs⟩
mutual
theorem TIs.mono : ∀ {t : Tr} {v : Value}, TIs I t v → TIs I' t v
  | _, _, .int => .int
  | _, _, .str => .str
  | _, _, .byt => .byt
  | _, _, .tup h o r => .tup (hs h) o (TIss.mono r)
theorem TIss.mono : ∀ {ts : List Tr} {vs : List Value}, TIss I ts vs → TIss I' ts vs
  | _, _, .nil => .nil
  | _, _, .cons h r => .cons (TIs.mono h) (TIss.mono r)
end
end

theorem KvIs.keys {c : Wc} {I : Led} {kvs : List (Str × Lf)} {kvs' : List (Str × Value)} (h : KvIs c I kvs kvs') : kvs'.map (·.1) = kvs.map (·.1) := by
  induction h with
  | nil => rfl
  | cons _ _ ih => simp [ih]
theorem KvIs.length {c : Wc} {I : Led} {kvs : List (Str × Lf)} {kvs' : List (Str × Value)} (h : KvIs c I kvs kvs') : kvs'.length = kvs.length := by
  have := congrArg List.length h.keys
  simpa using this
def lfAt (kvs : List (Str × Lf)) (k : Str) : Option Lf := (kvs.find? fun kv => kv.1 = k).map (·.2)
theorem KvIs.at {c : Wc} {I : Led} {kvs : List (Str × Lf)} {kvs' : List (Str × Value)} (h : KvIs c I kvs kvs') (k : Str) : (lfAt kvs k = none ∧ valueAt kvs' k = none) ∨ ∃ l v, lfAt kvs k = some l ∧ valueAt kvs' k = some v ∧ LfIs c I l v := by
  induction h with
  | nil => exact .inl ⟨rfl, rfl⟩
  | @cons k' l v r r' h _ ih =>
    unfold lfAt valueAt at ih ⊢
    rw [List.find?_cons, List.find?_cons]
    by_cases e : k' = k
    · simp only [e, decide_true]
      exact .inr ⟨l, v, rfl, rfl, h⟩
    · simp only [e, decide_false]
      exact ih

/-- the order of keys -/
def SortsTo (ks ss : List Str) : Prop := ∀ ss', ss'.Perm ks → sortedS ss' = true → ss' = ss
def tlLf : Lf → Tr
  | .num n => .tup [.str "int", .int n]
  | .nm s => .tup [.str "name", .str s]
def tlAt (kvs : List (Str × Lf)) (k : Str) : Tr := .tup [.str k, match lfAt kvs k with | some l => tlLf l | none => .int 0]
def tlDic (ss : List Str) (kvs : List (Str × Lf)) : Tr := .tup (.str "dict" :: ss.map (tlAt kvs))
def ordS (ks : List Str) : List Str := match ks with
  | [a, b] => if sortedS [a, b] = true then [a, b] else [b, a]
  | l => l
theorem sortsTo_one {ks : List Str} (h : ks.length ≤ 1) : SortsTo ks (ordS ks) := by
  intro ss' p _
  have hl := p.length_eq
  match ks, h with
  | [], _ => exact List.perm_nil.mp p
  | [a], _ => exact List.perm_singleton.mp p
theorem sortsTo_two {a b : Str} (hs : sortedS [a, b] = true) (ht : sortedS [b, a] = false) : SortsTo [a, b] [a, b] := by
  intro ss' p s
  have hl := p.length_eq
  match ss', hl with
  | [x, y], _ =>
    have hx : x = a ∨ x = b := by simpa using p.subset (List.mem_cons_self)
    rcases hx with rfl | rfl
    · have := List.Perm.cons_inv p
      rw [List.perm_singleton.mp this]
    · have p2 : [x, y].Perm [x, a] := p.trans (List.Perm.swap _ _ _)
      have := List.perm_singleton.mp (List.Perm.cons_inv p2)
      rw [this] at s
      rw [s] at ht; cases ht
theorem sortsTo_two' {a b : Str} (hs : sortedS [a, b] = true) (ht : sortedS [b, a] = false) : SortsTo [b, a] [a, b] := fun ss' p s => sortsTo_two hs ht ss' (p.trans (List.Perm.swap _ _ _)) s

def tlV : Vl → Tr
  | .num n => .tup [.str "int", .int n]
  | .dic kvs => tlDic (ordS (kvs.map (·.1))) kvs
  | .stm kvs b => .tup [.str "stream", tlDic (ordS (kvs.map (·.1))) kvs, .byt b]
def GoodK (kvs : List (Str × Lf)) : Prop := SortsTo (kvs.map (·.1)) (ordS (kvs.map (·.1))) ∧ kvs.length ≤ 2
def GoodV : Vl → Prop
  | .num _ => True
  | .dic kvs => GoodK kvs
  | .stm kvs b => GoodK kvs ∧ b.length < 100



section
variable {c : Wc} {f : Fc} {A : Around} {m : Loc} {M I : Led} {E : Value → Shared → Prop}
theorem look_bb : typeLookup (.type "bytes") "__bytes__" = pure (some (.builtin "bytes.__bytes__")) := by rw [typeLookup_type, builtinLookup_eq_fast]; kernel_rfl
theorem bb_new {prog : Program} {w : World} {s : Shared} {b : Array UInt8} {t : Tok} {Q : Value → Shared → Prop} (h : Q (.bytes b t) s) :
    codeAny (model prog w) A (.call (.builtin "bytes.__new__") ⟨[.type "bytes", .bytes b t], []⟩) (wants Q E) s := by
  refine codeAny_of_tree ?_
  show wpAny _ A.in1 (do checkBuiltinCall "bytes.__new__" ⟨[.type "bytes", .bytes b t], []⟩; again (.builtin "bytes.__new__" ⟨[.type "bytes", .bytes b t], []⟩)) _ _ s
  refine wpAny_bind (wpAny_of_eq (PySem.F.bm_newCall _) (wpAny_pure ⟨plainId_quiet PySem.F.bm_plain _, codeAny_builtin PySem.F.bm_entry ?_⟩))
  rw [Around.under_plainId PySem.F.bm_plain _]
  unfold Builtin.«bytes.__new__»
  refine wpAny_bind (wpAny_of_eq (a := true) rfl ?_)
  refine bm_if_false rfl ?_
  refine wpAny_bind (wpAny_of_eq PySem.F.bm_sub ?_)
  refine bm_if_false rfl ?_
  refine wpAny_bind (wpAny_of_eq (PySem.F.bm_bind _) ?_)
  refine wpAny_bind (wpAny_of_eq (a := ()) rfl ?_)
  refine wpAny_bind (wpAny_of_eq (a := ()) rfl ?_)
  refine bm_if_false rfl ?_
  refine wpAny_bind (wpAny_specialOf (typeIs_bytes s b t) look_bb ?_)
  refine wpAny_bind (wpAny_rule ?_)
  refine wpAny_bind (wpAny_typeOf (typeIs_bytes s b t) ?_)
  refine bm_if_true rfl ?_
  exact wpAny_pure h
theorem n_bb {b : Array UInt8} {t : Tok} {Q : Value → Led → Led → Prop} (h : Q (.bytes b t) M I) : Te c f A m M I (call (.type "bytes") [.bytes b t]) Q E := .mk fun s L => by
  refine callType_codes (Q₁ := fun obj s₁ => obj = .bytes b t ∧ s₁ = s) PySem.F.bm_called (PySem.F.bm_typeCall _) F.entry_object_init (bb_new ⟨rfl, rfl⟩) ?_
  rintro obj s₁ ⟨rfl, rfl⟩
  exact ⟨typeIs_bytes _ _ _, F.args_object_init_2 _ _, object_init_meets PySem.F.bm_called.init.lookup PySem.F.bm_called.made (by decide) PW c.w A.in1 _ _ ⟨typeIs_bytes _ _ _, rfl, ⟨_, _, M, I, rfl, L, h⟩⟩⟩

/-! list of bytes -/
theorem look_bl : typeLookup (.type "bytes") "__len__" = pure (some (.builtin "bytes.__len__")) := FB.slot_bytes_len.lookup
def ByteAt (b : List UInt8) (i : Nat) (v : Value) : Prop := ∃ x u, b[i]? = some x ∧ v = .int (x.toNat : Int) u
theorem ext_bytes {prog : Program} {w : World} {s : Shared} {R : Result → Shared → Prop} (hh : A.handled = none) (b : List UInt8) (t : Tok) (S : Addr) (res : Value) (c₀ : Nat) (hS : s.heap.get? S = some { cls := .type "list", data := .seq #[] c₀ })
    (hR : ∀ h' tk acc' c', (∀ b o, b ≠ S → s.heap.get? b = some o → h'.get? b = some o) → h'.get? S = some { cls := .type "list", dict := none, data := .seq acc' c', slots := #[] } →
      ItemsOf (ByteAt b) acc' b.length → R (.ok (.ret res)) { s with heap := h', toks := tk }) (hn : b.length ≤ sizeLine) :
    wpAny (model prog w) A.in1 (Builtin.List.listExtendWith (.ref S) (.bytes b.toArray t) res)
      (fun fin s' => match fin with | .done f => R (.ok f) s' | .again c' => c'.quiet = true ∧ codeAny (model prog w) A c' R s') (fun e s' => R (.error e) s') s := by
  have hSI : S ≠ s.heap.objs.size := Nat.ne_of_lt (Heap.lt_size hS)
  have hSf : S ∉ [s.heap.objs.size] := fun hm => hSI (List.mem_singleton.mp hm)
  unfold Builtin.List.listExtendWith
  refine wpAny_bind (wpAny_typeOf (T := "bytes") (v := .bytes b.toArray t) rfl ?_)
  have h1 : Builtin.List.listSameRef (.ref S) (.bytes b.toArray t) = false := rfl
  have h2 : (Value.type "bytes" == Value.type "list") = false := by decide
  have h3 : (Value.type "bytes" == Value.type "tuple") = false := by decide
  simp only [h1, h2, h3, Bool.or_false, Bool.false_eq_true, if_false]
  refine wpAny_bind (KBw.pyIter_bytes ?_)
  refine wpAny_bind (wpAny_holding ?_)
  unfold Builtin.List.listLengthHint
  refine wpAny_bind (wpAny_specialOf (T := "bytes") (v := .bytes b.toArray t) rfl look_bl ?_)
  generalize hid : ("bytes.__len__" : String) = id0
  wp_delta
  rw [show splitId id0 = some ("bytes", "__len__") from by subst hid; decide +kernel]
  subst hid
  refine wpAny_bind (wpAny_isInstance (T := "bytes") (v := .bytes b.toArray t) (b := true) rfl (by rw [isSubtype_type]; kernel_rfl) ?_)
  refine wpAny_ite_split (fun hab => absurd hab (by decide)) (fun _ => ?_)
  refine wpAny_ite_split (fun _ => ?_) (fun hab => absurd (by decide +kernel) hab)
  refine wpAny_bind (wpAny_typeOf (T := "bytes") (v := .bytes b.toArray t) rfl ?_)
  refine wpAny_pure ?_
  rw [if_neg (by decide)]
  have W := (KBw.walks (prog := prog) (w := w) (A := A.in1) hh s.heap.objs.size b.toArray t)
  have hst : KBw.IsBytesIter (s.heap.push { cls := .type "bytes_iterator", data := .fields #[.bytes b.toArray t, .int ((0 : Nat) : Int) 0] }) s.heap.objs.size b.toArray t 0 := ⟨_, Heap.get?_push_size _ rfl, rfl, rfl⟩
  rw [show b.toArray.size = b.length from rfl] at W
  refine wpAny_pure ⟨plainId_quiet F.plain_extend_loop _, codeAny_extend_loopS W.toS hn _ hSf _ b.length 0 _ _ _ rfl (Nat.zero_le _) hst (Heap.get?_push_of_some _ hS) (ItemsOf.nil _) fun s' acc' c' hm hS' hacc => ?_⟩
  rw [Moved.eq_with hm]
  refine hR s'.heap s'.toks acc' c' (fun b ob hb e => hm.heap b ob (fun hmem => ?_) (Heap.get?_push_of_some _ e)) hS' ?_
  · rcases List.mem_cons.mp hmem with e' | hmem
    · exact hb e'
    · exact absurd (Heap.lt_size e) (by rw [List.mem_singleton.mp hmem]; exact Nat.lt_irrefl _)
  · refine ⟨by simpa using hacc.1, fun j v e => ?_⟩
    obtain ⟨x, u, h1, h2⟩ := hacc.2 j v e
    exact ⟨x, u, by simpa using h1, h2⟩
theorem init_bytes {prog : Program} {w : World} {s : Shared} {R : Result → Shared → Prop} (hh : A.handled = none) (b : List UInt8) (t : Tok) (S : Addr) (hS : s.heap.get? S = some { cls := .type "list", data := .seq #[] })
    (hR : ∀ h' tk acc' c', (∀ b o, b ≠ S → s.heap.get? b = some o → h'.get? b = some o) → h'.get? S = some { cls := .type "list", dict := none, data := .seq acc' c', slots := #[] } →
      ItemsOf (ByteAt b) acc' b.length → R (.ok (.ret .none)) { s with heap := h', toks := tk }) (hn : b.length ≤ sizeLine) :
    wpAny (model prog w) A.in1 (Builtin.«list.__init__» ⟨[.ref S, .bytes b.toArray t], []⟩)
      (fun fin s' => match fin with | .done f => R (.ok f) s' | .again c' => c'.quiet = true ∧ codeAny (model prog w) A c' R s') (fun e s' => R (.error e) s') s := by
  show wpAny _ _ (do let old ← Builtin.List.listItems (.ref S); Builtin.List.listUpdate (.ref S) (fun _ => #[]); letGo old.toList.reverse; Builtin.List.listExtendWith (.ref S) (.bytes b.toArray t) .none) _ _ s
  refine wpAny_bind ?_
  unfold Builtin.List.listItems
  refine wpAny_bind (wpAny_seqItems hS rfl (wpAny_pure ?_))
  show wpAny _ _ (updateSeq S (fun _ => #[]) >>= fun _ => letGo (#[] : Array Value).toList.reverse >>= fun _ => Builtin.List.listExtendWith (.ref S) (.bytes b.toArray t) .none) _ _ s
  refine wpAny_bind (wpAny_updateSeq hS rfl ?_)
  have hS₂ := Heap.get?_update_self (Obj.mapSeq (fun _ => (#[] : Array Value))) hS rfl
  have oth : ∀ b o, b ≠ S → s.heap.get? b = some o → (s.heap.update S (Obj.mapSeq (fun _ => (#[] : Array Value)))).get? b = some o :=
    fun b o hb e => (Heap.get?_update_other _ _ (Ne.symm hb)).trans e
  refine wpAny_bind (wpAny_letGo ?_)
  refine ext_bytes hh b t S .none _ hS₂ (fun h' tk acc' c' hk hS' hacc => ?_) hn
  exact hR h' tk acc' c' (fun b o hb e => hk b o hb (oth b o hb e)) hS' hacc
theorem l_bytes {b : List UInt8} {t : Tok} {Q : Value → Led → Led → Prop} (hh : A.handled = none) (hn : b.length ≤ sizeLine)
    (h : ∀ a o vs, LO vs o → IntsAre vs (b.map fun x => (x.toNat : Int)) → Q (.ref a) ((a, o) :: M) I) : Te c f A m M I (call (.type "list") [.bytes b.toArray t]) Q E := .mk fun s ⟨g, L⟩ => by
  refine callType_codes (Q₁ := fun obj s₁ => obj = .ref s.heap.objs.size ∧ s₁ = { s with heap := s.heap.push { cls := .type "list", data := .seq #[] } }) F.called_list (F.typeCall_list_1 _) F.entry_list_init
    (code_list_new _ ⟨rfl, rfl⟩) fun obj s₁ h₁ => ?_
  obtain ⟨rfl, rfl⟩ := h₁
  have hS : (s.heap.push { cls := .type "list", data := .seq #[] }).get? s.heap.objs.size = some { cls := .type "list", data := .seq #[] } := Heap.get?_push_size _ rfl
  refine ⟨⟨_, hS, rfl⟩, F.args_list_init_2 _ _, init_bytes (A := A.in1) hh b t _ hS (fun h' tk acc' c' hk hS' hacc => ?_) hn⟩
  have hk' : ∀ b o, s.heap.get? b = some o → h'.get? b = some o := fun b o e => hk b o (Nat.ne_of_lt (Heap.lt_size e)) (Heap.get?_push_of_some _ e)
  have L2 : Live0 c f g m ((s.heap.objs.size, { cls := .type "list", dict := none, data := .seq acc' c', slots := #[] }) :: M) I h' := L.pushed (L.F.keeps hk') (news_pushed L.F L.N hk' hS' rfl) (L.lt 0)
  have hI : IntsAre acc'.toList (b.map fun x => (x.toNat : Int)) := by
    have : ∀ (bs : List UInt8) (us : List Value), us.length = bs.length → (∀ (j : Nat) (u : Value), us[j]? = some u → ByteAt bs j u) → IntsAre us (bs.map fun x => (x.toNat : Int)) := by
      intro bs
      induction bs with
      | nil => intro us h1 _; rw [List.eq_nil_of_length_eq_zero h1]; exact .nil
      | cons q r ih =>
        intro us h1 h2
        cases us with
        | nil => cases h1
        | cons u us =>
          obtain ⟨x, tk, e1, rfl⟩ := h2 0 u rfl
          cases e1
          exact .cons _ _ (ih us (by simpa using h1) fun j u hu => by simpa [ByteAt] using h2 (j + 1) u (by simpa using hu))
    exact this b acc'.toList (by simpa using hacc.1) fun j u hu => hacc.2 j u (by simpa using hu)
  exact ⟨rfl, h', tk, _, I, rfl, ⟨g, L2⟩, h _ _ acc'.toList ⟨rfl, c', rfl⟩ hI⟩
end



section
variable {c : Wc} {f : Fc} {A : Around} {m : Loc} {M I : Led} {E : Value → Shared → Prop}
/-! an object of a class is no number -/
theorem int_eq_inst (b : Int) (u : Tok) (l : Addr) (C dx : Addr) :
    Meets (Builtin.«int.__eq__» ⟨[.int b u, .ref l], []⟩) (fun _ R s => s.heap.get? l = some (instObj C dx) ∧ R (.ok (.ret .notImplemented)) s) :=
  .of_wp fun prog w A R s h => by obtain ⟨hp, g, d, tk, os⟩ := s; obtain ⟨hl, h⟩ := h; wp_walk using AutoSeq1.wpAny_loadPart' hl, wpAny_load hl; exact ⟨_, rfl, h⟩
theorem obj_eq_int {M : Model} {s : Shared} {Q : PySem.Fin → Shared → Prop} {x : Addr} {n : Int} {t : Tok} (hq : Q (.done (.ret .notImplemented)) s) : wpAny M A (Builtin.«object.__eq__» ⟨[.ref x, .int n t], []⟩) Q E s := by
  unfold Builtin.«object.__eq__»
  refine wpAny_bind (wpAny_of_eq (a := (Value.ref x, [Value.int n t])) rfl ?_)
  dsimp only
  refine wpAny_bind (wpAny_of_eq (a := false) rfl ?_)
  exact wpAny_pure hq
theorem call_objeq {prog : Program} {w : World} {s : Shared} {x : Addr} {n : Int} {t : Tok} {Q : Value → Shared → Prop} (Li : Looks (model prog w) s.heap (isInstance (.ref x) (.type "object")) true) (h : Q .notImplemented s) :
    wpAny (model prog w) A (call (.builtin "object.__eq__") [.ref x, .int n t]) Q E s :=
  wpAny_call (codeAny_call_builtin F.cmp_object.eq.plain F.cmpEntry_eq (check_slot F.cmpKind_eq F.cmpSplit_eq Li (F.cmpArgs_eq _ _) (obj_eq_int h)))
theorem try_objeq {prog : Program} {w : World} {s : Shared} {x : Addr} {n : Int} {t : Tok} {R : Option Value → Shared → Prop} (Li : Looks (model prog w) s.heap (isInstance (.ref x) (.type "object")) true)
    (Ls : Looks (model prog w) s.heap (specialOf (.ref x) "__eq__") (some (.builtin "object.__eq__"))) (r : R none s) : wpAny (model prog w) A (tryCompare (.ref x) "__eq__" (.int n t)) R E s := by
  simp only [tryCompare, callSpecialIfBound?, bindSpecialIfBound?]
  refine wpAny_bind (wpAny_holding (wpAny_bind (wpAny_bind (Ls.here ?_))))
  simp only [F.cmp_object.eq.bind]
  refine wpAny_bind (wpAny_askSetting (wpAny_ite ?_))
  split
  · refine wpAny_bind (wpAny_pure (wpAny_pure ?_))
    exact wpAny_bind (call_objeq Li (wpAny_pure (wpAny_pure r)))
  · refine wpAny_tryCatch (wpAny_bind (wpAny_pure (wpAny_pure ?_)))
    exact wpAny_bind (call_objeq Li (wpAny_pure (wpAny_pure r)))
theorem eq_inst_int {prog : Program} {w : World} {K : Frag} {s : Shared} {x C dx : Addr} {n : Int} {t : Tok} {Q : Value → Shared → Prop} (X : K.In s.heap) (hx : s.heap.get? x = some (instObj C dx))
    (hf : findIn K (.ref C) "__eq__" = some (some (.builtin "object.__eq__"))) (hs : subIn K (.type "int") (.ref C) = some false) (ho : mroIn K C (.type "object") = some true) (hu : A.units < cLine) (h : Q (.bool false) s) :
    wpAny (model prog w) A (compareOp .Eq (.ref x) (.int n t)) Q E s := by
  have L0 : Looks (model prog w) s.heap (typeOf (.ref x)) (.ref C) := (Looks.ld hx).andThen .now
  have Li : Looks (model prog w) s.heap (isInstance (.ref x) (.type "object")) true := L0.andThen (looks_mroIn X ho)
  have Ls : Looks (model prog w) s.heap (specialOf (.ref x) "__eq__") (some (.builtin "object.__eq__")) := L0.andThen (looks_findIn X hf)
  refine cmp_ofEq ?_
  have h1 : oneThing? CmpOp.Eq (.ref x) (.int n t) = none := rfl
  have h2 : (Value.ref C != Value.type "int") = true := rfl
  have hi : cmpInfo CmpOp.Eq = (("==", ("__eq__" : Str), ("__eq__" : Str)) : String × Str × Str) := rfl
  simp only [richCompare, hi, h1]
  refine wpAny_holding ?_
  refine wpAny_bind (wpAny_cRoomFor hu ?_)
  refine wpAny_bind (L0.here (wpAny_bind (wpAny_typeOf (typeIs_int s n t) ?_)))
  simp only [h2, if_true]
  refine wpAny_bind ((looks_subIn X hs).here ?_)
  simp only [Bool.false_eq_true, if_false, Bool.not_false, if_true]
  refine wpAny_bind (try_objeq Li Ls ?_)
  refine wpAny_bind (m := tryCompare (.int n t) _ (.ref x)) (wpAny_tryCompare_declines (typeIs_int s n t) F.slot_int_eq_refl
    (call_meets F.slot_int_eq_refl (typeIs_int s n t) F.entry_int_eq (F.args_int_eq_2 _ _) (int_eq_inst n t x C dx) ⟨hx, rfl, ?_⟩))
  exact wpAny_bind (wpAny_rule (wpAny_bind (wpAny_of_eq (a := false) rfl (wpAny_pure h))))
theorem c_eqinst {x C dx : Addr} {n : Int} {t : Tok} {Q : Value → Led → Led → Prop} (hx : (x, instObj C dx) ∈ M ++ I)
    (hf : findIn c.K (.ref C) "__eq__" = some (some (.builtin "object.__eq__"))) (hs : subIn c.K (.type "int") (.ref C) = some false) (ho : mroIn c.K C (.type "object") = some true) (hu : A.units < cLine) (h : Q (.bool false) M I) :
    Te c f A m M I (compareOp .Eq (.ref x) (.int n t)) Q E := Te.here (fun s R L r => eq_inst_int L.Xh (L.g hx) hf hs ho hu (r s.toks)) h

/-! slices -/
def SlO (l u : Value) (o : Obj) : Prop := o = { cls := .type "slice", data := .fields #[l, u, .none] }
theorem e_slice {env : Env} {u : Expr} {pos : Pos} {Q : Value → Led → Led → Prop} (h : Te c f A m M I (eval u env) (fun v M I => ∀ a o, SlO .none v o → Q (.ref a) M ((a, o) :: I)) E) : Te c f A m M I (eval (.Slice none (some u) none pos) env) Q E := .mk fun s L => by
  rw [PySem.arm_eval_Slice]
  refine wpAny_bind (wpAny_of_eq (a := Value.none) rfl ?_)
  refine wpAny_bind (wpAny_holding ?_)
  show wpAny _ _ (eval u env) _ _ _
  refine wpAny_mono (h.run s L) (fun v s1 q => ?_) fun _ _ e => e
  obtain ⟨h1, t1, M1, I1, rfl, L1, q⟩ := q
  refine wpAny_bind (wpAny_holding (wpAny_of_eq (a := Value.none) rfl ?_))
  exact wpAny_newObj_type ⟨_, _, M1, _, rfl, L1.push _, q _ _ rfl⟩
theorem i_slice {value slice : Expr} {l sl : Addr} {o so : Obj} {vs : List Value} {k : Int} {t : Tok} {Q : Value → Led → Led → Prop} (hm : (l, o) ∈ M ++ I) (hl : LO vs o) (hsl : (sl, so) ∈ M ++ I) (hso : SlO .none (.int k t) so) (hk : 0 ≤ k) (hz : vs.length ≤ sizeLine)
    (hs : subscripted slice false (.ref l) (.ref sl) = operate [.ref sl, .ref l] (getItem (.ref l) (.ref sl))) (ht : ∀ r, letTemporaryGo value (.ref l) r = pure ()) (h : ∀ a o' us, LO us o' → (∀ ns, IntsAre vs ns → IntsAre us (ns.take k.toNat)) → Q (.ref a) ((a, o') :: M) I) :
    Te c f A m M I (subscriptTail value slice (.ref l) (.ref sl)) Q E := .mk fun s L => by
  refine subscriptTail_ops (L.isList hm hl).typeIs list_getitem_lookup (wpAny_getItem_list_slice (L.isList hm hl) (show s.heap.IsSliceOf sl .none (.int k t) .none from ⟨so, L.g hsl, by rw [hso], by rw [hso]⟩) .none (.int k t) .none (by simp) ?_ (by simpa using hz)) hs ht
  exact ⟨_, _, _, _, rfl, L.pushM _, h _ _ (slicePick vs.toArray none (some k) none).toList ⟨rfl, 0, rfl⟩ fun ns hi => kmk_upto hi hk⟩
theorem picked_upto (b : List UInt8) {k : Int} (hk : 0 ≤ k) : KBy.picked b.toArray none (some k) = (b.take k.toNat).toArray := by
  rw [KBc.picked_eq]
  have e : clipAt b.length k = min k.toNat b.length := by
    have := clipAt_nat b.length k.toNat
    rwa [Int.toNat_of_nonneg hk] at this
  simp only [Option.elim, List.size_toArray, e, List.drop_zero, Nat.sub_zero]
  congr 1
  rw [List.take_eq_take_iff]
  omega
theorem i_bslice {value slice : Expr} {sl : Addr} {so : Obj} {b : List UInt8} {k : Int} {t tb : Tok} {Q : Value → Led → Led → Prop} (hsl : (sl, so) ∈ M ++ I) (hso : SlO .none (.int k t) so) (hk : 0 ≤ k) (hz : b.length ≤ 1000000)
    (hs : subscripted slice false (.bytes b.toArray tb) (.ref sl) = operate [.ref sl, .bytes b.toArray tb] (getItem (.bytes b.toArray tb) (.ref sl))) (ht : ∀ r, letTemporaryGo value (.bytes b.toArray tb) r = pure ())
    (h : ∀ t', Q (.bytes (b.take k.toNat).toArray t') M I) : Te c f A m M I (subscriptTail value slice (.bytes b.toArray tb) (.ref sl)) Q E := .mk fun s L => by
  have hS : s.heap.IsSliceOf sl .none (.int k t) .none := ⟨so, L.g hsl, by rw [hso], by rw [hso]⟩
  refine tail_of_ItemOn ⟨"bytes", _, FB.slot_bytes_getitem.lookup, typeIs_bytes _ _ _, getItem_meets (typeIs_bytes _ _ _) (by decide) FB.slot_bytes_getitem FB.entry_bytes_getitem (FB.args_bytes_getitem_2 _ _) (KBc.meets_slice2 b.toArray tb _ .none (.int k t))
    ⟨hS, Nat.le_trans (KBc.size_picked_le _ _ _) (by rw [sizeLine_eq]; simp; omega), fun t' k' => ?_⟩⟩ hs ht
  rw [picked_upto b hk]
  exact ⟨_, k', M, I, rfl, L, h t'⟩

/-! sums, extending -/
theorem n_sum {l : Addr} {o : Obj} {vs : List Value} {ns : List Int} {Q : Value → Led → Led → Prop} (hm : (l, o) ∈ M ++ I) (hl : LO vs o) (hi : IntsAre vs ns) (hh : A.handled = none) (h : ∀ t, Q (.int ns.sum t) M I) : Te c f A m M I (call (.builtin "sum") [.ref l]) Q E := .mk fun s ⟨g, L⟩ => by
  exact LSm.sum_ints L.F L.N hh (L.isList hm hl) hi fun h' tk t' F' N' => ⟨h', tk, M, I, rfl, ⟨g, ⟨L.B, F', L.X, N', L.T, L.ap, L.kd⟩⟩, h t'⟩
/-- a list made of nothing but its items -/
theorem LO.pure {vs : List Value} {o : Obj} (h : LO vs o) : ∃ d sl n, o = ⟨.type "list", d, .seq vs.toArray n, sl⟩ := by
  obtain ⟨c', d, dt, sl⟩ := o
  obtain ⟨h1, n, h2⟩ := h
  simp only at h1 h2
  subst h1 h2
  exact ⟨d, sl, n, rfl⟩

/-! lists that differ in length; equal trees -/
theorem c_nelists {a b : Addr} {oa ob : Obj} {vs ws : List Value} {Q : Value → Led → Led → Prop} (ha : (a, oa) ∈ M ++ I) (hb : (b, ob) ∈ M ++ I) (xa : LO vs oa) (xb : LO ws ob) (hl : vs.length ≠ ws.length) (hu : A.units < cLine) (h : Q (.bool true) M I) :
    Te c f A m M I (compareOp .NotEq (.ref a) (.ref b)) Q E :=
  Te.here (fun s R L r => SeqAt.RcNeAt.lists_lengths (L.isList ha xa) (L.isList hb xb) (by simpa using hl) hu PW c.w E _ (r s.toks)) h
theorem c_nenil {a b : Addr} {oa ob : Obj} {Q : Value → Led → Led → Prop} (ha : (a, oa) ∈ M ++ I) (hb : (b, ob) ∈ M ++ I) (xa : LO [] oa) (xb : LO [] ob) (hu : A.units < cLine) (h : Q (.bool false) M I) :
    Te c f A m M I (compareOp .NotEq (.ref a) (.ref b)) Q E :=
  Te.here (fun s R L r => SeqAt.RcNeAt.lists (e := fun _ => true) (L.isList ha xa) (L.isList hb xb) rfl hu (fun j h1 => absurd h1 (by simp)) PW c.w E _ (by simpa using r s.toks)) h
theorem c_eqdicts {a b : Addr} {oa ob : Obj} {Q : Value → Led → Led → Prop} (ha : (a, oa) ∈ M ++ I) (hb : (b, ob) ∈ M ++ I) (xa : DS c a [] oa) (xb : DS c b [] ob) (hu : A.units < cLine) (h : Q (.bool true) M I) :
    Te c f A m M I (compareOp .Eq (.ref a) (.ref b)) Q E :=
  Te.here (fun s R L r => keq_pairs L.N ha hb xa.2 xb.2 xa.1 xb.1 rfl hu .nil (r s.toks)) h
end

/-! equal trees -/
mutual
noncomputable def Tr.dep : Tr → Nat
  | .tup ts => Tr.depL ts + 1
  | .int _ => 0
  | .str _ => 0
  | .byt _ => 0
noncomputable def Tr.depL : List Tr → Nat
  | [] => 0
  | t :: r => max t.dep (Tr.depL r)
end
theorem eqAt_bytes {A : Around} {s : Shared} (b : List UInt8) (t u : Tok) : SeqAt.EqAt A s (.bytes b.toArray t) (.bytes b.toArray u) true := fun prog w E Q h => by
  unfold eqBool
  refine wpAny_holding ?_
  refine wpAny_ite_split (fun _ => ?_) (fun _ => ?_)
  · exact wpAny_bind (wpAny_rule (wpAny_pure h))
  · refine wpAny_bind (m := richCompare .Eq _ _) (show wpAny _ _ (compareOp .Eq _ _) _ _ _ from eq_bytes (wpAny_truthy_bool ?_))
    simpa using h
mutual
theorem TIs.eqAt {I : Led} {s : Shared} (hI : ∀ p ∈ I, s.heap.get? p.1 = some p.2) : ∀ {t : Tr} {v v' : Value} (A : Around), TIs I t v → TIs I t v' → A.units + t.dep < cLine → SeqAt.EqAt A s v v' true
  | _, _, _, A, .int (n := n) (t := t), .int (t := u), _ => by simpa using SeqAt.EqAt.int_int (A := A) (s := s) n t n u
  | _, _, _, A, .str (s := x) (t := t), .str (t := u), _ => by simpa using (eqGives_str x x t u).at A s
  | _, _, _, A, .byt (b := b) (t := t), .byt (t := u), _ => eqAt_bytes b t u
  | _, _, _, A, .tup (ts := ts) (a := a) (vs := vs) ha xa r, .tup (a := b) (vs := ws) hb xb r', hu => by
    by_cases e : a = b
    · subst e; exact SeqAt.EqAt.same _
    · have hu' : A.units + Tr.depL ts + 1 < cLine := by simpa [Tr.dep, Nat.add_assoc] using hu
      have key := TIss.eqAt hI A.in1 r r' (by show A.units + 1 + Tr.depL ts < cLine; omega)
      have h := SeqAt.RcAt.tuples (A := A) (s := s) (l := a) (b := b) (items := vs.toArray) (items2 := ws.toArray) (e := fun _ => true) ⟨_, hI _ ha, xa.1, xa.2⟩ ⟨_, hI _ hb, xb.1, xb.2⟩ (by omega) (fun j h1 h2 => by simpa using key.2 j (by simpa using h1) (by simpa using h2))
      have e2 : ((List.range (min vs.toArray.size ws.toArray.size)).all (fun _ => true) && vs.toArray.size == ws.toArray.size) = true := by simp [key.1]
      rw [e2] at h
      exact SeqAt.EqAt.of_refs e h
theorem TIss.eqAt {I : Led} {s : Shared} (hI : ∀ p ∈ I, s.heap.get? p.1 = some p.2) : ∀ {ts : List Tr} {vs ws : List Value} (A : Around), TIss I ts vs → TIss I ts ws → A.units + Tr.depL ts < cLine → vs.length = ws.length ∧ ∀ j (h1 : j < vs.length) (h2 : j < ws.length), SeqAt.EqAt A s vs[j] ws[j] true
  | _, _, _, A, .nil, .nil, _ => ⟨rfl, fun j h1 => absurd h1 (Nat.not_lt_zero _)⟩
  | _, _, _, A, .cons (t := t) (ts := ts) h r, .cons h' r', hu => by
    have hu1 : A.units + t.dep < cLine ∧ A.units + Tr.depL ts < cLine := by
      simp only [Tr.depL] at hu
      have := Nat.le_max_left t.dep (Tr.depL ts)
      have := Nat.le_max_right t.dep (Tr.depL ts)
      exact ⟨by omega, by omega⟩
    have a1 := TIs.eqAt hI A h h' hu1.1
    have a2 := TIss.eqAt hI A r r' hu1.2
    refine ⟨by simp [a2.1], fun j h1 h2 => ?_⟩
    cases j with
    | zero => exact a1
    | succ j => exact a2.2 j (by simpa using h1) (by simpa using h2)
end
section
variable {c : Wc} {f : Fc} {A : Around} {m : Loc} {M I : Led} {E : Value → Shared → Prop}
theorem c_netrees {t : Tr} {a b : Addr} {Q : Value → Led → Led → Prop} (ha : TIs I t (.ref a)) (hb : TIs I t (.ref b)) (hu : A.units + t.dep < cLine) (h : Q (.bool false) M I) : Te c f A m M I (compareOp .NotEq (.ref a) (.ref b)) Q E := by
  refine Te.here (fun s R L r => ?_) h
  have hI : ∀ p ∈ I, s.heap.get? p.1 = some p.2 := fun p hp => L.gI hp
  cases ha with
  | @tup ts _ oa vs ha xa ra =>
    cases hb with
    | @tup _ _ ob ws hb xb rb =>
      have hu' : A.units + Tr.depL ts + 1 < cLine := by simpa [Tr.dep, Nat.add_assoc] using hu
      have key := TIss.eqAt hI A.in1 ra rb (by show A.units + 1 + Tr.depL ts < cLine; omega)
      have h := SeqAt.RcNeAt.tuples (A := A) (s := s) (l := a) (b := b) (items := vs.toArray) (items2 := ws.toArray) (e := fun _ => true) ⟨_, hI _ ha, xa.1, xa.2⟩ ⟨_, hI _ hb, xb.1, xb.2⟩ (by omega) (fun j h1 h2 => by simpa using key.2 j (by simpa using h1) (by simpa using h2))
      have e2 : ((List.range (min vs.toArray.size ws.toArray.size)).all (fun _ => true) && vs.toArray.size == ws.toArray.size) = true := by simp [key.1]
      rw [e2] at h
      exact h PW c.w E _ (r s.toks)
theorem c_eqlists {ts : List Tr} {a b : Addr} {oa ob : Obj} {vs ws : List Value} {Q : Value → Led → Led → Prop} (ha : (a, oa) ∈ M ++ I) (hb : (b, ob) ∈ M ++ I) (xa : LO vs oa) (xb : LO ws ob) (ra : TIss I ts vs) (rb : TIss I ts ws) (hu : A.units + Tr.depL ts + 1 < cLine) (h : Q (.bool true) M I) :
    Te c f A m M I (compareOp .Eq (.ref a) (.ref b)) Q E := by
  refine Te.here (fun s R L r => ?_) h
  have hI : ∀ p ∈ I, s.heap.get? p.1 = some p.2 := fun p hp => L.gI hp
  have key := TIss.eqAt hI A.in1 ra rb (by show A.units + 1 + Tr.depL ts < cLine; omega)
  refine SeqAt.eq_listAt (e := fun _ => true) (L.isList ha xa) (L.isList hb xb) (by simpa using key.1) (by omega) (fun j h1 h2 => by simpa using key.2 j (by simpa using h1) (by simpa using h2)) ?_
  have e : ((List.range vs.toArray.size).all fun _ => true) = true := by simp
  rw [e]; exact r s.toks
end



/-! comprehensions of two clauses -/
def yes0 (e : Expr) (iter : Expr) (acc : Value) (env : Env) (nxt : Code) : Sem PySem.Fin := do
  let x ← eval iter env
  standAt iter.pos
  let x ← foldedSetIterable iter env x
  let it ← holding [x] (pyIter x)
  let _ ← runOwn (.compStart e 1 it acc env) env
  again nxt
abbrev Two (elt t0 i0 t1 i1 : Expr) (f0 f1 : List Expr) (scope : Scope) (pos : Pos) : Expr := .ListComp elt [⟨t0, i0, f0, 0⟩, ⟨t1, i1, f1, 0⟩] scope pos
theorem turn0_eq (elt t0 i0 t1 i1 : Expr) (f0 f1 : List Expr) (scope : Scope) (pos : Pos) (it acc : Value) (env : Env) :
    compTurn (Two elt t0 i0 t1 i1 f0 f1 scope pos) 0 it acc env = turnTree t0 i0 f0 (yes0 (Two elt t0 i0 t1 i1 f0 f1 scope pos) i1 acc env (.compLoop (Two elt t0 i0 t1 i1 f0 f1 scope pos) 0 it acc env)) (.compLoop (Two elt t0 i0 t1 i1 f0 f1 scope pos) 0 it acc env) it env := by rfl
theorem turn1_eq (elt t0 i0 t1 i1 : Expr) (f0 f1 : List Expr) (scope : Scope) (pos : Pos) (it acc : Value) (env : Env) :
    compTurn (Two elt t0 i0 t1 i1 f0 f1 scope pos) 1 it acc env = turnTree t1 i1 f1 (yes1 elt acc env (.compLoop (Two elt t0 i0 t1 i1 f0 f1 scope pos) 1 it acc env)) (.compLoop (Two elt t0 i0 t1 i1 f0 f1 scope pos) 1 it acc env) it env := by rfl
theorem start1 {c : Wc} {A : Around} {elt t0 i0 t1 i1 : Expr} {f0 f1 : List Expr} {scope : Scope} {pos : Pos} {it acc : Value} {env : Env} {R : Result → Shared → Prop} {s : Shared}
    (h0 : codeAny (model PW c.w) A (.compLoop (Two elt t0 i0 t1 i1 f0 f1 scope pos) 1 it acc env) R s)
    (h : wpAny (model PW c.w) A (pyIter it) (fun it' s' => codeAny (model PW c.w) A (.compLoop (Two elt t0 i0 t1 i1 f0 f1 scope pos) 1 it' acc env) R s') (fun _ _ => False) s) :
    codeAny (model PW c.w) A (.compStart (Two elt t0 i0 t1 i1 f0 f1 scope pos) 1 it acc env) R s := by
  refine codeAny_of_tree ?_
  show wpAny _ _ ((compStart (Two elt t0 i0 t1 i1 f0 f1 scope pos) 1 it acc env).onRaise (fun x => do noteFrame x env; standAt theWindowsPlace)) _ _ s
  refine wpAny_notedAt ?_
  unfold compStart
  show wpAny _ _ (ask >>= _) _ _ s
  refine wpAny_bind (wpAny_askSetting (wpAny_ite ?_))
  split
  · first
      | exact wpAny_bind (wpAny_pure (wpAny_pure (And.intro rfl h0)))
      | exact wpAny_pure (And.intro rfl h0)
  · refine wpAny_bind (wpAny_rule ?_)
    show wpAny _ _ (standAt i1.pos >>= _) _ _ s
    exact wpAny_bind (wpAny_standAt (wpAny_bind (wpAny_mono h (fun it' s' h' => wpAny_pure (And.intro rfl h')) fun _ _ x => x.elim)))

theorem Live.perm {c : Wc} {f : Fc} {m : Loc} {M M' I : Led} {h : Heap} (L : Live c f m M I h) (p : M.Perm M') : Live c f m M' I h := by
  obtain ⟨g, L⟩ := L
  refine ⟨g, L.B, L.F, L.X, fun q hq => L.N q ?_, L.T, ⟨(p.map (·.1)).nodup_iff.mp L.ap.1, fun q hq => L.ap.2 q (p.symm.subset hq)⟩, L.kd⟩
  rcases List.mem_append.mp hq with h | h
  · exact List.mem_append_left _ (p.symm.subset h)
  · exact List.mem_append_right _ h

section
variable {c : Wc} {f : Fc} {A : Around} {m : Loc} {M I : Led} {E : Value → Shared → Prop}
/-- where an inner turn ends -/
def EndI (G : Loc → Prop) (K : Led → Led → Prop) (C D it : Addr) (oD o : Obj) (M I : Led) : Prop := ∃ oC M', M = (it, o) :: (C, oC) :: (D, oD) :: M' ∧ (∃ lm, NO lm oC ∧ G lm) ∧ K M' I
def ZI (C D it : Addr) (oC oD o : Obj) (M : Led) : Led := (it, o) :: (C, oC) :: (D, oD) :: M
theorem EndI.z {G : Loc → Prop} {K : Led → Led → Prop} {C D it : Addr} {oD o : Obj} (h : EndI G K C D it oD o M I) : EndZ (ZI C D it) G K oD o M I := let ⟨oC, M', e, ⟨lm, n, g⟩, q⟩ := h; ⟨oC, M', lm, e, n, g, q⟩
/-- the inner loop, the iterator at hand -/
def Inner (c : Wc) (f : Fc) (A : Around) (t1 elt : Expr) (f1 : List Expr) (scope : Scope) (cl : List (Str × Addr)) (C D : Addr) (K : List Value → Led → Led → Prop) (ys₀ : List Value) (m : Loc) (itv : Value) (M I : Led) : Prop :=
  ∃ (it : Addr) (o oC oD : Obj) (M' : Led) (n : Nat) (P : Nat → Value → Prop) (O : Nat → Obj → Prop) (src : Led) (J : Nat → List Value → Led → Led → Prop) (G : Loc → Prop), itv = .ref it ∧ M = (it, o) :: (C, oC) :: (D, oD) :: M' ∧ (∃ lm, NO lm oC ∧ G lm) ∧ LO ys₀ oD ∧ Loop c f A t1 f.env it n P O src ∧ O 0 o ∧ J 0 ys₀ M' I ∧
    (∀ k ys M I, J k ys M I → ys.length ≤ 1000 ∧ ∀ p ∈ src, p ∈ M ++ I) ∧
    (∀ k ys M I v o' oC oD lm, k < n → P k v → J k ys M I → NO lm oC → G lm → LO ys oD → ∀ (Ry : Value → Led → Led → Prop) (Rn : Led → Led → Prop), EndsV (fun y => EndI G (J (k + 1) (ys ++ [y])) C D it oD o') Ry → EndsL (EndI G (J (k + 1) ys) C D it oD o') Rn → Ts c f A m ((it, o') :: (C, oC) :: (D, oD) :: M) I (assign t1 (Ce f scope cl C) v) (TestQ c f A m f1 elt (Ce f scope cl C) Ry Rn) FF) ∧
    (∀ ys M I, J n ys M I → K ys M I)
theorem inner_run {t1 elt t0 i0 i1 : Expr} {f0 f1 : List Expr} {scope : Scope} {pos : Pos} {cl : List (Str × Addr)} {C D : Addr} {K : List Value → Led → Led → Prop} {ys₀ : List Value} {itv : Value} {s : Shared} {R : Result → Shared → Prop} (L : Live c f m M I s.heap) (H : Inner c f A t1 elt f1 scope cl C D K ys₀ m itv M I)
    (hR : ∀ ys M' I' oC oD lm h tk, Live c f m ((C, oC) :: (D, oD) :: M') I' h → NO lm oC → LO ys oD → K ys M' I' → R (.ok .next) { s with heap := h, toks := tk }) :
    codeAny (model PW c.w) A (.compStart (Two elt t0 i0 t1 i1 f0 f1 scope pos) 1 itv (.ref D) (Ce f scope cl C)) R s := by
  obtain ⟨it, o, oC, oD, M3, n, P, O, src, J, G, rfl, rfl, ⟨lm, hC, hG⟩, hD, W, h0, j0, hsrc, turn, fin⟩ := H
  have hs2 : ∀ i ys M I oC oD o, J i ys M I → ∀ p ∈ src, p ∈ ZI C D it oC oD o M ++ I := fun i ys M I oC oD o h p hp => List.mem_cons_of_mem _ (List.mem_cons_of_mem _ (List.mem_cons_of_mem _ ((hsrc i ys M I h).2 p hp)))
  have loop : codeAny (model PW c.w) A (.compLoop (Two elt t0 i0 t1 i1 f0 f1 scope pos) 1 (.ref it) (.ref D) (Ce f scope cl C)) R s :=
    clause_run (s₀ := s) (C := C) (D := D) (Z := ZI C D it) (G := G) (J := J) (turn1_eq _ _ _ _ _ _ _ _ _ _ _ _) W (fun _ _ _ _ _ => .head) (fun _ _ _ _ => .head) hs2
      (fun i ys M I v o oC oD lm h tk hlt hP L hC hG hD hJ Y hY => one_turn (Z := ZI C D it) (G := G) (K := J (i + 1)) (fun _ _ _ _ _ => .tail (.tail .head)) (Nat.le_trans (hsrc i ys M I hJ).1 (by rw [sizeLine_eq]; omega)) hD (turn i ys M I v o oC oD lm hlt hP hJ hC hG hD _ _ (fun _ _ _ q => q.z) fun _ _ q => q.z) L Y hY)
      (fun ys M I oC oD lm h tk L hC hD hJ => hR ys M I oC oD lm h tk L hC hD (fin ys M I hJ)) (.mk 0 ys₀ M3 I o oC oD lm s.heap s.toks L h0 hC hG hD j0 (Nat.zero_le n))
  exact start1 loop (W.ok.self 0 o _ _ _ (L.gM (.head _)) (fun p hp => L.g (hs2 0 ys₀ M3 I oC oD o j0 p hp)) h0 loop)
abbrev TwoQ (c : Wc) (f : Fc) (A : Around) (m : Loc) (i1 : Expr) (env : Env) (Ri : Value → Led → Led → Prop) : Unit → Loc → Led → Led → Prop := fun _ m' M I => m' = m ∧ Te c f A m M I (eval i1 env) (kIt c f A m FF Ri) FF
def CompOn2 (c : Wc) (f : Fc) (A : Around) (t0 i1 t1 elt : Expr) (f1 : List Expr) (scope : Scope) (cl : List (Str × Addr)) (Q : Value → Led → Led → Prop) (m : Loc) (itv : Value) (M I : Led) : Prop :=
  ∃ (it : Addr) (o : Obj) (M' : Led) (n : Nat) (P : Nat → Value → Prop) (O : Nat → Obj → Prop) (src : Led) (J : Nat → List Value → Led → Led → Prop), itv = .ref it ∧ M = (it, o) :: M' ∧ Loop c f A t0 f.env it n P O src ∧ O 0 o ∧ J 0 [] M' I ∧
    (∀ i ys M I, J i ys M I → ∀ p ∈ src, p ∈ M ++ I) ∧
    (∀ i ys M I v o' C oC D oD lm, i < n → P i v → J i ys M I → NO lm oC → LO ys oD → ∀ Ri : Value → Led → Led → Prop, EndsV (Inner c f A t1 elt f1 scope cl C D (fun ys M I => ∃ M'', M = (it, o') :: M'' ∧ J (i + 1) ys M'' I) ys m) Ri → Ts c f A m ((C, oC) :: (D, oD) :: (it, o') :: M) I (assign t0 (Ce f scope cl C) v) (TwoQ c f A m i1 (Ce f scope cl C) Ri) FF) ∧
    (∀ ys M I D oD, J n ys M I → LO ys oD → Q (.ref D) ((D, oD) :: M) I)
/-- one outer turn -/
theorem two_turn {elt t0 i0 t1 i1 : Expr} {f1 : List Expr} {scope : Scope} {pos : Pos} {cl : List (Str × Addr)} {C D it : Addr} {nxt : Code} {K : List Value → Led → Led → Prop} {ys : List Value} {o : Obj} {s₀ : Shared} {h : Heap} {tk : Nat} {v : Value} (hs1 : ∀ x, foldedSetIterable i1 (Ce f scope cl C) x = pure x)
    (t : Ts c f A m M I (assign t0 (Ce f scope cl C) v) (TwoQ c f A m i1 (Ce f scope cl C) (Inner c f A t1 elt f1 scope cl C D (fun ys M I => ∃ M'', M = (it, o) :: M'' ∧ K ys M'' I) ys m)) FF) (L : Live c f m M I h) (Y : Shared → Prop) (hY : CNxt c f m (ZQ C D it) TT K o s₀ Y) :
    wpAny (model PW c.w) A (assign t0 (Ce f scope cl C) v) (cAs c A [] (Ce f scope cl C) (yes0 (Two elt t0 i0 t1 i1 [] f1 scope pos) i1 (.ref D) (Ce f scope cl C) nxt) nxt Y) FF { s₀ with heap := h, toks := tk } := by
  refine t.step (s := { s₀ with heap := h, toks := tk }) L fun _ h4 t4 m4 M4 I4 L4 q4 => ?_
  obtain ⟨rfl, q4⟩ := q4
  refine wpAny_tests_nil ?_
  refine wpAny_bind (q4.step (s := { s₀ with heap := h4, toks := t4 }) L4 fun x h5 t5 M5 I5 L5 q5 => ?_)
  refine wpAny_bind (wpAny_standAt ?_)
  rw [hs1]
  refine wpAny_bind (wpAny_pure (wpAny_bind (wpAny_holding (Te.step (s := { s₀ with heap := h5, toks := t5 }) q5 L5 fun x h6 t6 M6 I6 L6 q6 => ?_))))
  refine wpAny_bind (wpAny_runOwn ?_)
  rw [Around.mark_none]
  refine inner_run (s := { s₀ with heap := h6, toks := t6 }) L6 q6 fun ys7 M7 I7 oC7 oD7 lm7 h7 t7 L7 hC7 hD7 q7 => ?_
  obtain ⟨M8, rfl, q7⟩ := q7
  exact wpAny_pure ⟨rfl, hY ys7 M8 I7 oC7 oD7 lm7 h7 t7 L7 hC7 trivial hD7 q7⟩
theorem comp_run2 {elt t0 i0 t1 i1 : Expr} {f1 : List Expr} {scope : Scope} {pos : Pos} {cl : List (Str × Addr)} {Q : Value → Led → Led → Prop} {itv : Value} {s : Shared} {C D : Addr} {oC oD : Obj} {R : Result → Shared → Prop} (hs1 : ∀ C x, foldedSetIterable i1 (Ce f scope cl C) x = pure x) (q : CompOn2 c f A t0 i1 t1 elt f1 scope cl Q m itv M I)
    (L : Live c f m ((C, oC) :: (D, oD) :: M) I s.heap) (hC : NO [] oC) (hD : LO [] oD)
    (fin : ∀ M' I' oC' lm h tk, Live c f m ((C, oC') :: M') I' h → NO lm oC' → Q (.ref D) M' I' → R (.ok .next) { s with heap := h, toks := tk }) :
    codeAny (model PW c.w) A (.compStart (Two elt t0 i0 t1 i1 [] f1 scope pos) 0 itv (.ref D) (Ce f scope cl C)) R s := by
  obtain ⟨it, o, M3, n, P, O, src, J, rfl, rfl, W, h0, j0, hsrc, turn, fin'⟩ := q
  have hs2 : ∀ i ys M I oC oD o, J i ys M I → ∀ p ∈ src, p ∈ ZQ C D it oC oD o M ++ I := fun i ys M I oC oD o h p hp => List.mem_cons_of_mem _ (List.mem_cons_of_mem _ (List.mem_cons_of_mem _ (hsrc i ys M I h p hp)))
  have loop : codeAny (model PW c.w) A (.compLoop (Two elt t0 i0 t1 i1 [] f1 scope pos) 0 (.ref it) (.ref D) (Ce f scope cl C)) R s :=
    clause_run (s₀ := s) (C := C) (D := D) (Z := ZQ C D it) (G := TT) (J := J) (turn0_eq _ _ _ _ _ _ _ _ _ _ _ _) W (fun _ _ _ _ _ => .tail (.tail .head)) (fun _ _ _ _ => .tail (.tail .head)) hs2
      (fun i ys M I v o oC oD lm h tk hlt hP L hC _ hD hJ Y hY => two_turn (K := J (i + 1)) (hs1 C) (turn i ys M I v o C oC D oD lm hlt hP hJ hC hD _ fun _ _ _ q => q) L Y hY)
      (fun ys M I oC oD lm h tk L hC hD hJ => fin _ I oC lm h tk L hC (fin' ys M I D oD hJ hD)) (.mk 0 [] M3 I o oC oD [] s.heap s.toks L h0 hC trivial hD j0 (Nat.zero_le n))
  exact codeAny_compStart_list loop (W.ok.self 0 o _ _ _ (L.gM (.tail _ (.tail _ (.head _)))) (fun p hp => L.g (hs2 0 [] M3 I oC oD o j0 p hp)) h0 loop)
theorem e_comp2 {elt t0 i0 t1 i1 : Expr} {f1 : List Expr} {scope : Scope} {pos : Pos} {cl : List (Str × Addr)} {Q : Value → Led → Led → Prop} (hclos : closureFor scope f.env = pure cl) (hcell : ∀ y ∈ scope.names, y.2 ≠ .cell) (hkind : scope.kind = .function)
    (hnames : ∀ x ∈ scope.names, x.2 = .local → scope.names.lookup x.1 = some .local) (hs : ∀ x, foldedSetIterable i0 f.env x = pure x) (hs1 : ∀ C x, foldedSetIterable i1 (Ce f scope cl C) x = pure x)
    (h : Te c f A m M I (eval i0 f.env) (kIt c f A m E (CompOn2 c f A t0 i1 t1 elt f1 scope cl Q m)) E) : Te c f A m M I (eval (Two elt t0 i0 t1 i1 [] f1 scope pos) f.env) Q E := by
  refine .mk fun s L => ?_
  rw [eval_ListComp]
  refine wpAny_comprehension_free (use := none) rfl hs hclos hkind hnames (h.step L fun x h1 t1' M1 I1 L1 q => q.step (s := { s with heap := h1, toks := t1' }) L1 fun itv h2 t2 M2 I2 L2 q => ?_)
  refine wpAny_newObj_type (wpAny_newFunctionEnv hcell (by intro y hy; simp at hy) (fun h₁ hns₁ hsb₁ => ?_) hkind)
  obtain ⟨oC, hoC, L5⟩ := comp_ground L2 rfl rfl hns₁ hsb₁
  refine comp_run2 hs1 q L5 hoC ⟨rfl, 0, rfl⟩ fun M' I' oC' lm h3 t3 L3 hC hq => ?_
  exact ⟨_, LCg.NsObj.ns hC (L3.gM (.head _)), fun h4 hs4 => ⟨h4, t3, _, _, rfl, L3.lose .head hs4.extBut, hq⟩⟩
end

local macro_rules | `(tactic| walk_at "mG0") => `(tactic| first
  | apply nm_kind_of
  | apply nm_told_plain
  | apply nm_told
  | apply nm_trailer_of
  | apply nm_is_cross_stream
  | apply nm_is_object_stream
  | apply nm_drop_file_streams
  | apply nm_table_of
  | apply nm_is_of_type
  | apply nm_packed_pieces
  | apply nm_all_pieces
  | apply nm_trailers_of
  | apply nm_joined
  | apply nm_last_catalog
  | apply nm_shelf_from
  | apply nm_true_length
  | apply nm_with_true_lengths
  | apply nm_mended_by
  | apply nm_law_draw
  | apply nm_law_read
  | apply nm_law_value
  | apply nm_law
  | apply nm_told_objects
  | apply nm_PaperError
  | apply nm_CrossFault
  | apply nm_Name
  | apply nm_String
  | apply nm_Stream
  | apply nm_Reference
  | apply nm_Lookup
  | apply nm_Shelf
  | apply nm_Piece
  | apply nm_Walk
  | apply nm_Decimal
  | apply nm_OWN_KEYS
  | apply nm_OF_THE_FILE
  | apply nm_MOST_HOPS
  | apply nm_len
  | apply nm_list
  | apply nm_dict
  | apply nm_bytes
  | apply nm_tuple
  | apply nm_sorted
  | apply nm_reversed
  | apply nm_range
  | apply nm_isinstance
  | apply nm_sum
  | apply nm_int
  | apply nm_bool
  )
local macro_rules | `(tactic| walk_at "mGlob") => `(tactic| (walk_at "mG0"; assumption))
local macro_rules | `(tactic| walk_at "mKeep") => `(tactic| exact KF.keeps (by assumption) (by decide +kernel))
local macro_rules | `(tactic| walk_at "mIs") => `(tactic| first | exact KF.kitT (by assumption) (by decide +kernel) | exact KF.kitF (by assumption) (by decide +kernel))
local macro_rules | `(tactic| walk_at "mOk") => `(tactic| exact KF.get (by assumption) (by decide +kernel))
local macro_rules | `(tactic| walk_at "mLook") => `(tactic| first | with_reducible exact Look.here | assumption | (refine Look.there ?_ ?_; decide +kernel; walk_at "mLook"))
local macro_rules | `(tactic| walk_at "mGet") => `(tactic| (refine Inst.get (v := ?v) (by assumption) (by walk_at "mOk") ?look ?hv ?_; (case look => walk_at "mLook"); (case hv => first | rfl | assumption)))
local macro_rules | `(tactic| walk_at "mE") => `(tactic| (walk_at "mS"; all_goals try kernel_rfl))
local macro_rules | `(tactic| walk_at "mS") => `(tactic| with_reducible first
  | (guard_target =~ Te _ _ _ _ _ _ (eval _ _) _ _; first
    | (refine e_local (v := ?v) ?look ?_ ?_ ?_; case look => walk_at "mLook")
    | walk_at "mGlob"
    | (first | apply e_int | apply e_str | apply e_bytes); intro _
    | apply e_sub
    | apply e_binop
    | apply e_attr
    | apply e_mcallX
    | apply e_call
    | apply e_compare
    | apply e_none
    | apply e_bool
    | apply e_tuple
    | apply e_list
    | apply e_ifexp
    | apply e_and
    | apply e_and_one)
  | apply a_cons
  | apply a_nil
  | (guard_target =~ Te _ _ _ _ _ _ (callWith _ _ _ _ _) _ _; first
    | apply cw_B
    | apply cw_B1
    | apply cw_T
    | apply cw_B0
    | (first | apply cw_F | apply cw_F1 | apply cw_F0 | apply cw_F01); walk_at "mKeep")
  | (guard_target =~ Te _ _ _ _ _ _ (compareOp _ _ _) _ _; first
    | apply c_isnone_yes
    | apply c_isnot_yes
    | (first | apply c_isnone_no | apply c_isnot_no); with_unfolding_all rfl
    | (first | (apply c_eqstr_f; decide +kernel) | (apply c_eqstr_t; decide +kernel) | (apply c_nestr_t; decide +kernel) | (apply c_nestr_f; decide +kernel)))
  | (apply r_isi; assumption; walk_at "mIs")
  | apply ite_t
  | apply ite_f
  | apply ite_nt
  | apply ite_nf
  | apply ep_cons
  | apply ep_nil
  | (guard_target =~ Te _ _ _ _ _ _ (isTrue _ _ _) _ _; first
    | apply t_compare
    | apply t_not
    | apply t_and
    | apply t_and_nil
    | apply t_or
    | apply t_or_nil
    | apply t_plain)
  | apply b_bool
  | (guard_target =~ Ts _ _ _ _ _ _ _ _ _; first
    | apply s_cons
    | apply s_nil
    | apply s_assign
    | apply s_ret
    | apply s_if
    | apply s_assignS
    | apply s_assignA
    | apply s_expr
    | apply s_assignT
    | apply n_local
    | apply u_cons
    | apply u_nil
    | apply as_name)
  | apply after_next
  | apply after_ret
  | refine fun _ (_ : Ends _ _) => ?_
  | refine fun _ _ (_ : EndsV _ _) (_ : EndsL _ _) => ?_
  | refine Ends.go (by assumption) ?_
  | refine EndsV.go (by assumption) ?_
  | refine EndsL.go (by assumption) ?_)





theorem ints_len {vs : List Value} {ns : List Int} (h : IntsAre vs ns) : vs.length = ns.length := h.length
theorem ints_at : ∀ {vs : List Value} {ns : List Int}, IntsAre vs ns → ∀ {k : Nat}, k < ns.length → ∃ t, vs[k]? = some (.int (ns.getD k 0) t)
  | _, _, .nil, k, hk => by simp at hk
  | _, _, .cons _ t h, 0, hk => ⟨_, rfl⟩
  | _, _, .cons _ t h, k + 1, hk => by
    obtain ⟨t, e⟩ := ints_at h (k := k) (by simpa using hk)
    exact ⟨t, by simpa using e⟩
def drawN (ns : List Int) (cc : Int) (spot : Nat) (many : Int) : Int :=
  if spot < ns.length then (ns.getD spot 0).fmod many else (cc + 7 * spot + ((spot : Int) * spot).fdiv 3).fmod many

/-- the pen: the cells, the spot, the ground -/
def PenO (I : Led) (ns : List Int) (cc : Int) (spot : Nat) (o : Obj) : Prop := ∃ t1 t2 a oc vs, LO [.ref a, .int spot t1, .int cc t2] o ∧ (a, oc) ∈ I ∧ LO vs oc ∧ IntsAre vs ns

theorem fn_draw {c : Wc} (k : KF c.K) {M I : Led} {pen : Addr} {op : Obj} {ns : List Int} {cc : Int} {spot : Nat} {many : Int} {tm : Tok} {M' : Obj → Led}
    (hp : PenO I ns cc spot op) (U : ∀ o', Up pen op o' M (M' o')) (hm : 0 < many) (hs : spot < 1000) (hn : ns.length < 1000) :
    Fn c 90 (.ref 524) [.ref pen, .int many tm] M I (fun v M1 I1 => I1 = I ∧ ∃ o', M1 = M' o' ∧ PenO I ns cc (spot + 1) o' ∧ ∃ t, v = .int (drawN ns cc spot many) t) := by
  obtain ⟨t1, t2, a, oc, vs, h1, h3, h4, h5⟩ := hp
  have len := ints_len h5
  refine .mk fun f A m E ar => ?_
  refine enter (binds := [("pen", .ref pen), ("many", .int many tm)]) (loc := [("many", .int many tm), ("pen", .ref pen)]) rfl k.f_law_draw ar (by decide) (by intros; kernel_rfl) (locs (by kernel_rfl)) (by decide +kernel) (by kernel_rfl) (by kernel_rfl) (by kernel_rfl) fun q A' R ar' hR => ?_
  refine s_cons ?_
  walk_at "mE"
  walk_at "mE"
  walk_at "mE"
  walk_at "mE"
  refine i_list (List.mem_append_left _ (U op).mem) h1 (by decide) (by decide) rfl (by kernel_rfl) ?_
  walk_at "mE"
  walk_at "mE"
  walk_at "mE"
  walk_at "mE"
  walk_at "mE"
  walk_at "mE"
  refine o_add fun _ => ?_
  walk_at "mE"
  walk_at "mE"
  refine x_list U h1 (by decide) (by decide) (by simp) fun o' h1' => ?_
  have hpen : PenO I ns cc (spot + 1) o' := ⟨_, t2, a, oc, vs, h1', h3, h4, h5⟩
  change LO [Value.ref a, .int ((spot : Int) + 1) _, .int cc t2] o' at h1'
  repeat walk_at "mE"
  refine i_list (List.mem_append_left _ (U o').mem') h1' (by decide) (by decide) rfl (by kernel_rfl) ?_
  repeat walk_at "mE"
  refine l_len (List.mem_append_right _ h3) h4 (by rw [len]; omega) fun _ => ?_
  refine c_lt ?_
  walk_at "mE"
  refine ite_in (fun hb => ?_) (fun hb => ?_)
  · have hb' : spot < ns.length := by have := of_decide_eq_true hb; omega
    repeat walk_at "mE"
    refine i_list (List.mem_append_left _ (U o').mem') h1' (by decide) (by decide) rfl (by kernel_rfl) ?_
    walk_at "mE"
    obtain ⟨t3, h6⟩ := ints_at h5 hb'
    refine i_list (List.mem_append_right _ h3) h4 (by omega) (by omega) (k := (spot : Int)) (v := .int (ns.getD spot 0) t3) (by simpa using h6) (by kernel_rfl) ?_
    repeat walk_at "mE"
    refine o_mod (by omega) fun _ => ?_
    refine hR.go ⟨rfl, o', rfl, hpen, ?_⟩
    unfold drawN; rw [if_pos hb']; exact ⟨_, rfl⟩
  · have hb' : ¬ spot < ns.length := by have := of_decide_eq_false hb; omega
    repeat walk_at "mE"
    refine i_list (List.mem_append_left _ (U o').mem') h1' (by decide) (by decide) rfl (by kernel_rfl) ?_
    repeat walk_at "mE"
    refine o_mul (IntMulOk.of_left (by decide +kernel)) fun _ => ?_
    refine o_add fun _ => ?_
    repeat walk_at "mE"
    refine o_mul (IntMulOk.of_bits ?_ ?_) fun _ => ?_
    rotate_left 2
    repeat walk_at "mE"
    refine o_fdiv (by decide) (by decide) fun _ => ?_
    refine o_add fun _ => ?_
    repeat walk_at "mE"
    refine o_mod (by omega) fun _ => ?_
    refine hR.go ⟨rfl, o', rfl, hpen, ?_⟩
    unfold drawN; rw [if_neg hb']; exact ⟨_, rfl⟩
    all_goals exact Nat.le_trans (intBits_cast_le (k := spot) (by show spot ≤ 2 ^ 24; omega)) (by decide)




theorem r_setattrL {c : Wc} {f : Fc} {A : Around} {m : Loc} {M I : Led} {E : Value → Shared → Prop} {x C dx : Addr} {od : Obj} {kvs kvs' : List (Str × Value)} {name : Str} {v : Value} {Q : Unit → Led → Led → Prop} (hx : (x, instObj C dx) ∈ I) (hs : SD c kvs od) (ok : SetOk c.K C name)
    (e : putK name v kvs = kvs') (hz : kvs.length ≤ 900) (h : ∀ o', SD c kvs' o' → Q () ((dx, o') :: M) I) : Te c f A m ((dx, od) :: M) I (setAttr (.ref x) name v) Q E :=
  r_setattr hx (fun _ => .head) hs ok hz fun o' s => h o' (e ▸ s)

section
variable {c : Wc} {f : Fc} {A : Around} {m : Loc} {M I : Led} {E : Value → Shared → Prop}
theorem init_Name (k : KF c.K) {x dx : Addr} {v : Value} (hx : (x, instObj 183 dx) ∈ I) :
    Fn c 90 (.ref 180) [.ref x, v] ((dx, dictOf [] 0) :: M) I (fun r M1 I1 => r = .none ∧ I1 = I ∧ ∃ o', M1 = (dx, o') :: M ∧ SD c [("text", v)] o') := by
  refine .mk fun f A m E ar => ?_
  refine enter (binds := [("self", .ref x), ("text", v)]) (loc := [("text", v), ("self", .ref x)]) rfl k.f_Name_init__ ar (by decide) (by intros; kernel_rfl) (locs (by kernel_rfl)) (by decide +kernel) (by kernel_rfl) (by kernel_rfl) (by kernel_rfl) fun q A' R ar' hR => ?_
  refine s_cons ?_
  repeat walk_at "mE"
  refine r_setattrL (kvs' := [("text", v)]) hx SD.nil (k.set (by decide +kernel)) (by kernel_rfl) (Nat.le_of_ble_eq_true rfl) fun o1 h1 => ?_
  repeat walk_at "mE"
  exact ⟨rfl, rfl, _, rfl, h1⟩
theorem mk_Name (k : KF c.K) {v : Value} {r : Nat} (ar : Ar f A r) (hr : r < 89) {Q : Value → Led → Led → Prop} (h : ∀ x I1, I ⊆ I1 → Inst c I1 183 [("text", v)] x → Q (.ref x) M I1) : Te c f A m M I (call (.ref 183) [v]) Q E :=
  (c_make k.mk_Name k.in_Name (k.fn (by decide +kernel)) fun x dx => (init_Name k (.head _)).cd (ar.make (by omega)) (by omega) (by decide) fun v' M1 I1 ⟨e1, e2, o', e3, hs⟩ => ⟨e1, by
    subst e2 e3
    exact ⟨M, _, Shed.freeze .head, h x _ (fun p hp => .tail _ (.tail _ hp)) ⟨dx, o', .tail _ (.head _), .head _, hs⟩⟩⟩).post

theorem init_Stream (k : KF c.K) {x dx : Addr} {v1 v2 : Value} (hx : (x, instObj 226 dx) ∈ I) :
    Fn c 90 (.ref 223) [.ref x, v1, v2] ((dx, dictOf [] 0) :: M) I (fun r M1 I1 => r = .none ∧ I1 = I ∧ ∃ o', M1 = (dx, o') :: M ∧ SD c [("head", v1), ("octets", v2)] o') := by
  refine .mk fun f A m E ar => ?_
  refine enter (binds := [("self", .ref x), ("head", v1), ("octets", v2)]) (loc := [("octets", v2), ("head", v1), ("self", .ref x)]) rfl k.f_Stream_init__ ar (by decide) (by intros; kernel_rfl) (locs (by kernel_rfl)) (by decide +kernel) (by kernel_rfl) (by kernel_rfl) (by kernel_rfl) fun q A' R ar' hR => ?_
  refine s_cons ?_
  repeat walk_at "mE"
  refine r_setattrL (kvs' := [("head", v1)]) hx SD.nil (k.set (by decide +kernel)) (by kernel_rfl) (Nat.le_of_ble_eq_true rfl) fun o1 h1 => ?_
  repeat walk_at "mE"
  refine r_setattrL (kvs' := [("head", v1), ("octets", v2)]) hx h1 (k.set (by decide +kernel)) (by kernel_rfl) (Nat.le_of_ble_eq_true rfl) fun o1 h1 => ?_
  repeat walk_at "mE"
  exact ⟨rfl, rfl, _, rfl, h1⟩
theorem mk_Stream (k : KF c.K) {v1 v2 : Value} {r : Nat} (ar : Ar f A r) (hr : r < 89) {Q : Value → Led → Led → Prop} (h : ∀ x I1, I ⊆ I1 → Inst c I1 226 [("head", v1), ("octets", v2)] x → Q (.ref x) M I1) : Te c f A m M I (call (.ref 226) [v1, v2]) Q E :=
  (c_make k.mk_Stream k.in_Stream (k.fn (by decide +kernel)) fun x dx => (init_Stream k (.head _)).cd (ar.make (by omega)) (by omega) (by decide) fun v' M1 I1 ⟨e1, e2, o', e3, hs⟩ => ⟨e1, by
    subst e2 e3
    exact ⟨M, _, Shed.freeze .head, h x _ (fun p hp => .tail _ (.tail _ hp)) ⟨dx, o', .tail _ (.head _), .head _, hs⟩⟩⟩).post

theorem init_Piece (k : KF c.K) {x dx : Addr} {v1 v2 v3 v4 v5 : Value} (hx : (x, instObj 419 dx) ∈ I) :
    Fn c 90 (.ref 409) [.ref x, v1, v2, v3, v4, v5] ((dx, dictOf [] 0) :: M) I (fun r M1 I1 => r = .none ∧ I1 = I ∧ ∃ o', M1 = (dx, o') :: M ∧ SD c [("number", v1), ("generation", v2), ("begun", v3), ("end", v4), ("value", v5)] o') := by
  refine .mk fun f A m E ar => ?_
  refine enter (binds := [("self", .ref x), ("number", v1), ("generation", v2), ("begun", v3), ("end", v4), ("value", v5)]) (loc := [("value", v5), ("end", v4), ("begun", v3), ("generation", v2), ("number", v1), ("self", .ref x)]) rfl k.f_Piece_init__ ar (by decide) (by intros; kernel_rfl) (locs (by kernel_rfl)) (by decide +kernel) (by kernel_rfl) (by kernel_rfl) (by kernel_rfl) fun q A' R ar' hR => ?_
  refine s_cons ?_
  repeat walk_at "mE"
  refine r_setattrL (kvs' := [("number", v1)]) hx SD.nil (k.set (by decide +kernel)) (by kernel_rfl) (Nat.le_of_ble_eq_true rfl) fun o1 h1 => ?_
  repeat walk_at "mE"
  refine r_setattrL (kvs' := [("number", v1), ("generation", v2)]) hx h1 (k.set (by decide +kernel)) (by kernel_rfl) (Nat.le_of_ble_eq_true rfl) fun o1 h1 => ?_
  repeat walk_at "mE"
  refine r_setattrL (kvs' := [("number", v1), ("generation", v2), ("begun", v3)]) hx h1 (k.set (by decide +kernel)) (by kernel_rfl) (Nat.le_of_ble_eq_true rfl) fun o1 h1 => ?_
  repeat walk_at "mE"
  refine r_setattrL (kvs' := [("number", v1), ("generation", v2), ("begun", v3), ("end", v4)]) hx h1 (k.set (by decide +kernel)) (by kernel_rfl) (Nat.le_of_ble_eq_true rfl) fun o1 h1 => ?_
  repeat walk_at "mE"
  refine r_setattrL (kvs' := [("number", v1), ("generation", v2), ("begun", v3), ("end", v4), ("value", v5)]) hx h1 (k.set (by decide +kernel)) (by kernel_rfl) (Nat.le_of_ble_eq_true rfl) fun o1 h1 => ?_
  repeat walk_at "mE"
  exact ⟨rfl, rfl, _, rfl, h1⟩
theorem mk_Piece (k : KF c.K) {v1 v2 v3 v4 v5 : Value} {r : Nat} (ar : Ar f A r) (hr : r < 89) {Q : Value → Led → Led → Prop} (h : ∀ x I1, I ⊆ I1 → Inst c I1 419 [("number", v1), ("generation", v2), ("begun", v3), ("end", v4), ("value", v5)] x → Q (.ref x) M I1) :
    Te c f A m M I (call (.ref 419) [v1, v2, v3, v4, v5]) Q E :=
  (c_make k.mk_Piece k.in_Piece (k.fn (by decide +kernel)) fun x dx => (init_Piece k (.head _)).cd (ar.make (by omega)) (by omega) (by decide) fun v' M1 I1 ⟨e1, e2, o', e3, hs⟩ => ⟨e1, by
    subst e2 e3
    exact ⟨M, _, Shed.freeze .head, h x _ (fun p hp => .tail _ (.tail _ hp)) ⟨dx, o', .tail _ (.head _), .head _, hs⟩⟩⟩).post

/-- a walk: two new lists, that turn -/
theorem init_Walk (k : KF c.K) {x dx : Addr} (hx : (x, instObj 440 dx) ∈ I) :
    Fn c 90 (.ref 437) [.ref x] ((dx, dictOf [] 0) :: M) I (fun r M1 I1 => r = .none ∧ I1 = I ∧ ∃ o' a b oa ob, M1 = (b, ob) :: (a, oa) :: (dx, o') :: M ∧ LO [] oa ∧ LO [] ob ∧ SD c [("pieces", .ref a), ("trailers", .ref b)] o') := by
  refine .mk fun f A m E ar => ?_
  refine enter (binds := [("self", .ref x)]) (loc := [("self", .ref x)]) rfl k.f_Walk_init__ ar (by decide) (by intros; kernel_rfl) (locs (by kernel_rfl)) (by decide +kernel) (by kernel_rfl) (by kernel_rfl) (by kernel_rfl) fun q A' R ar' hR => ?_
  refine s_cons ?_
  repeat walk_at "mE"
  refine n_list (by decide) fun a oa ha => ?_
  repeat walk_at "mE"
  refine r_setattr (M' := fun o' => (a, oa) :: (dx, o') :: M) hx (fun _ => .tail .head) SD.nil (k.set (by decide +kernel)) (Nat.le_of_ble_eq_true rfl) fun o1 h1 => ?_
  change SD c [("pieces", .ref a)] o1 at h1
  repeat walk_at "mE"
  refine n_list (by decide) fun b ob hb => ?_
  repeat walk_at "mE"
  refine r_setattr (M' := fun o' => (b, ob) :: (a, oa) :: (dx, o') :: M) hx (fun _ => .tail (.tail .head)) h1 (k.set (by decide +kernel)) (Nat.le_of_ble_eq_true rfl) fun o1 h1 => ?_
  have e : putK "trailers" (.ref b) ([("pieces", .ref a)] : List (Str × Value)) = ([("pieces", .ref a), ("trailers", .ref b)] : List (Str × Value)) := by kernel_rfl
  rw [e] at h1
  repeat walk_at "mE"
  exact ⟨rfl, rfl, _, a, b, oa, ob, rfl, ha, hb, h1⟩
theorem mk_Walk (k : KF c.K) {r : Nat} (ar : Ar f A r) (hr : r < 89) {Q : Value → Led → Led → Prop} (h : ∀ x I1 a b oa ob, I ⊆ I1 → Inst c I1 440 [("pieces", .ref a), ("trailers", .ref b)] x → LO [] oa → LO [] ob → Q (.ref x) ((b, ob) :: (a, oa) :: M) I1) : Te c f A m M I (call (.ref 440) []) Q E :=
  (c_make k.mk_Walk k.in_Walk (k.fn (by decide +kernel)) fun x dx => (init_Walk k (.head _)).cd (ar.make (by omega)) (by omega) (by decide) fun v' M1 I1 ⟨e1, e2, o', a, b, oa, ob, e3, ha, hb, hs⟩ => ⟨e1, by
    subst e2 e3
    exact ⟨_, _, Shed.freeze (.tail (.tail .head)), h x _ a b oa ob (fun p hp => .tail _ (.tail _ hp)) ⟨dx, o', .tail _ (.head _), .head _, hs⟩ ha hb⟩⟩).post
end




section
variable {c : Wc} {f : Fc} {A : Around} {m : Loc} {M I : Led} {E : Value → Shared → Prop}
/-! the kinds -/
theorem kind_int (k : KF c.K) {n : Int} {t : Tok} : Fn c 90 (.ref 265) [.int n t] M I (fun r M1 I1 => M1 = M ∧ I1 = I ∧ ∃ u, r = .str "int" u) := by
  refine .mk fun f A m E ar => ?_
  refine enter (binds := [("value", .int n t)]) (loc := [("value", .int n t)]) rfl k.f_kind_of ar (by decide) (by intros; kernel_rfl) (locs (by kernel_rfl)) (by decide +kernel) (by kernel_rfl) (by kernel_rfl) (by kernel_rfl) fun q A' R ar' hR => ?_
  have hT : HasTy c (M ++ I) (.int n t) (.type "int") := HasTy.int
  refine s_cons ?_
  repeat walk_at "mE"
  exact ⟨rfl, rfl, _, rfl⟩
theorem kind_none (k : KF c.K) : Fn c 90 (.ref 265) [.none] M I (fun r M1 I1 => M1 = M ∧ I1 = I ∧ ∃ u, r = .str "null" u) := by
  refine .mk fun f A m E ar => ?_
  refine enter (binds := [("value", .none)]) (loc := [("value", .none)]) rfl k.f_kind_of ar (by decide) (by intros; kernel_rfl) (locs (by kernel_rfl)) (by decide +kernel) (by kernel_rfl) (by kernel_rfl) (by kernel_rfl) fun q A' R ar' hR => ?_
  refine s_cons ?_
  repeat walk_at "mE"
  exact ⟨rfl, rfl, _, rfl⟩
theorem kind_name (k : KF c.K) {x : Addr} {kvs : List (Str × Value)} (i : Inst c I 183 kvs x) : Fn c 90 (.ref 265) [.ref x] M I (fun r M1 I1 => M1 = M ∧ I1 = I ∧ ∃ u, r = .str "name" u) := by
  refine .mk fun f A m E ar => ?_
  refine enter (binds := [("value", .ref x)]) (loc := [("value", .ref x)]) rfl k.f_kind_of ar (by decide) (by intros; kernel_rfl) (locs (by kernel_rfl)) (by decide +kernel) (by kernel_rfl) (by kernel_rfl) (by kernel_rfl) fun q A' R ar' hR => ?_
  have hT : HasTy c (M ++ I) (.ref x) (.ref 183) := i.name k
  refine s_cons ?_
  repeat walk_at "mE"
  exact ⟨rfl, rfl, _, rfl⟩
theorem kind_stream (k : KF c.K) {x : Addr} {kvs : List (Str × Value)} (i : Inst c I 226 kvs x) : Fn c 90 (.ref 265) [.ref x] M I (fun r M1 I1 => M1 = M ∧ I1 = I ∧ ∃ u, r = .str "stream" u) := by
  refine .mk fun f A m E ar => ?_
  refine enter (binds := [("value", .ref x)]) (loc := [("value", .ref x)]) rfl k.f_kind_of ar (by decide) (by intros; kernel_rfl) (locs (by kernel_rfl)) (by decide +kernel) (by kernel_rfl) (by kernel_rfl) (by kernel_rfl) fun q A' R ar' hR => ?_
  have hT : HasTy c (M ++ I) (.ref x) (.ref 226) := i.stream k
  refine s_cons ?_
  repeat walk_at "mE"
  exact ⟨rfl, rfl, _, rfl⟩
theorem kind_dict (k : KF c.K) {a : Addr} {o : Obj} {kvs : List (Str × Value)} (hm : (a, o) ∈ M ++ I) (hd : DS c a kvs o) : Fn c 90 (.ref 265) [.ref a] M I (fun r M1 I1 => M1 = M ∧ I1 = I ∧ ∃ u, r = .str "dict" u) := by
  refine .mk fun f A m E ar => ?_
  refine enter (binds := [("value", .ref a)]) (loc := [("value", .ref a)]) rfl k.f_kind_of ar (by decide) (by intros; kernel_rfl) (locs (by kernel_rfl)) (by decide +kernel) (by kernel_rfl) (by kernel_rfl) (by kernel_rfl) fun q A' R ar' hR => ?_
  have hT : HasTy c (M ++ I) (.ref a) (.type "dict") := HasTy.dict hm hd.2.choose_spec.choose_spec.1.1
  refine s_cons ?_
  repeat walk_at "mE"
  exact ⟨rfl, rfl, _, rfl⟩

/-! what is told of a leaf -/
theorem plain_int (k : KF c.K) {n : Int} {t u : Tok} : Fn c 90 (.ref 272) [.str "int" u, .int n t] M I (fun r M1 I1 => M1 = M ∧ I ⊆ I1 ∧ TIs I1 (tlLf (.num n)) r) := by
  refine .mk fun f A m E ar => ?_
  refine enter (binds := [("kind", .str "int" u), ("value", .int n t)]) (loc := [("value", .int n t), ("kind", .str "int" u)]) rfl k.f_told_plain ar (by decide) (by intros; kernel_rfl) (locs (by kernel_rfl)) (by decide +kernel) (by kernel_rfl) (by kernel_rfl) (by kernel_rfl) fun q A' R ar' hR => ?_
  refine s_cons ?_
  repeat walk_at "mE"
  refine n_tuple (Nat.le_of_ble_eq_true rfl) fun a o h => ?_
  repeat walk_at "mE"
  exact ⟨rfl, fun p hp => .tail _ hp, .tup (.head _) h (.cons .str (.cons .int .nil))⟩
theorem plain_name (k : KF c.K) {x : Addr} {s : Str} {t u : Tok} (i : Inst c I 183 [("text", .str s t)] x) : Fn c 90 (.ref 272) [.str "name" u, .ref x] M I (fun r M1 I1 => M1 = M ∧ I ⊆ I1 ∧ TIs I1 (tlLf (.nm s)) r) := by
  refine .mk fun f A m E ar => ?_
  refine enter (binds := [("kind", .str "name" u), ("value", .ref x)]) (loc := [("value", .ref x), ("kind", .str "name" u)]) rfl k.f_told_plain ar (by decide) (by intros; kernel_rfl) (locs (by kernel_rfl)) (by decide +kernel) (by kernel_rfl) (by kernel_rfl) (by kernel_rfl) fun q A' R ar' hR => ?_
  refine s_cons ?_
  repeat walk_at "mE"
  refine i.get (k.get (by decide +kernel)) (by walk_at "mLook") rfl ?_
  repeat walk_at "mE"
  refine n_tuple (Nat.le_of_ble_eq_true rfl) fun a o h => ?_
  repeat walk_at "mE"
  exact ⟨rfl, fun p hp => .tail _ hp, .tup (.head _) h (.cons .str (.cons .str .nil))⟩
end




section
variable {c : Wc} {f : Fc} {A : Around} {m : Loc} {M I : Led} {E : Value → Shared → Prop}
theorem told_num (k : KF c.K) {n : Int} {t : Tok} : Fn c 89 (.ref 277) [.int n t] M I (fun r M1 I1 => M1 = M ∧ I ⊆ I1 ∧ TIs I1 (tlLf (.num n)) r) := by
  refine .mk fun f A m E ar => ?_
  refine enterP (binds := [("value", .int n t)]) (loc := []) (n := "value") (v := .int n t) k.f_told ar (by decide) (by intros; kernel_rfl) (by kernel_rfl) (fun _ => by kernel_rfl) (by kernel_rfl) (by kernel_rfl) (by kernel_rfl) (by kernel_rfl) (by kernel_rfl) fun L q A' R ar' hR o ho => ?_
  refine s_cons ?_
  repeat walk_at "mE"
  refine e_cell (by kernel_rfl) (.head _) ho (by kernel_rfl) (by kernel_rfl) ?_
  repeat walk_at "mE"
  refine (kind_int k).te ar' (by decide) (by decide) fun v M1 I1 ⟨e1, e2, u, e3⟩ => ?_
  subst e1 e2 e3
  repeat walk_at "mE"
  refine e_cell (by kernel_rfl) (.head _) ho (by kernel_rfl) (by kernel_rfl) ?_
  repeat walk_at "mE"
  refine (plain_int k).te ar' (by decide) (by decide) fun v M1 I1 ⟨e1, e2, e3⟩ => ?_
  subst e1
  repeat walk_at "mE"
  exact ⟨rfl, fun p hp => e2 (.tail _ hp), e3⟩
theorem told_nm (k : KF c.K) {x : Addr} {s : Str} {t : Tok} (i : Inst c I 183 [("text", .str s t)] x) : Fn c 89 (.ref 277) [.ref x] M I (fun r M1 I1 => M1 = M ∧ I ⊆ I1 ∧ TIs I1 (tlLf (.nm s)) r) := by
  refine .mk fun f A m E ar => ?_
  refine enterP (binds := [("value", .ref x)]) (loc := []) (n := "value") (v := .ref x) k.f_told ar (by decide) (by intros; kernel_rfl) (by kernel_rfl) (fun _ => by kernel_rfl) (by kernel_rfl) (by kernel_rfl) (by kernel_rfl) (by kernel_rfl) (by kernel_rfl) fun L q A' R ar' hR o ho => ?_
  replace i := i.mono (I' := (L, o) :: I) fun p hp => .tail _ hp
  refine s_cons ?_
  repeat walk_at "mE"
  refine e_cell (by kernel_rfl) (.head _) ho (by kernel_rfl) (by kernel_rfl) ?_
  repeat walk_at "mE"
  refine (kind_name k i).te ar' (by decide) (by decide) fun v M1 I1 ⟨e1, e2, u, e3⟩ => ?_
  subst e1 e2 e3
  repeat walk_at "mE"
  refine e_cell (by kernel_rfl) (.head _) ho (by kernel_rfl) (by kernel_rfl) ?_
  repeat walk_at "mE"
  refine (plain_name k i).te ar' (by decide) (by decide) fun v M1 I1 ⟨e1, e2, e3⟩ => ?_
  subst e1
  repeat walk_at "mE"
  exact ⟨rfl, fun p hp => e2 (.tail _ hp), e3⟩
theorem told_lf (k : KF c.K) {l : Lf} {v : Value} (h : LfIs c I l v) : Fn c 89 (.ref 277) [v] M I (fun r M1 I1 => M1 = M ∧ I ⊆ I1 ∧ TIs I1 (tlLf l) r) := by
  cases l with
  | num n => obtain ⟨t, rfl⟩ := h; exact told_num k
  | nm s => obtain ⟨x, t, rfl, i⟩ := h; exact told_nm k i
theorem strs_at : ∀ {vs : List Value} {ss : List Str}, StrsAre vs ss → ∀ {i : Nat} {v : Value}, vs[i]? = some v → ∃ s t, ss[i]? = some s ∧ v = .str s t
  | _, _, .nil, i, v, e => by simp at e
  | _, _, .cons n t h, 0, v, e => by cases e; exact ⟨_, _, rfl, rfl⟩
  | _, _, .cons n t h, i + 1, v, e => by simpa using strs_at h (by simpa using e)
theorem strs_len : ∀ {vs : List Value} {ss : List Str}, StrsAre vs ss → vs.length = ss.length
  | _, _, .nil => rfl
  | _, _, .cons n t h => by simp [strs_len h]
theorem TIss.snoc {J : Led} : ∀ {ts : List Tr} {vs : List Value}, TIss J ts vs → ∀ {t : Tr} {v : Value}, TIs J t v → TIss J (ts ++ [t]) (vs ++ [v])
  | _, _, .nil, _, _, h => .cons h .nil
  | _, _, .cons a r, _, _, h => .cons a (r.snoc h)
theorem TIss.length {J : Led} : ∀ {ts : List Tr} {vs : List Value}, TIss J ts vs → vs.length = ts.length
  | _, _, .nil => rfl
  | _, _, .cons a r => by simp [r.length]
theorem lfAt_some {kvs : List (Str × Lf)} {s : Str} (h : s ∈ kvs.map (·.1)) : lfAt kvs s ≠ none := by
  intro e
  unfold lfAt at e
  obtain ⟨p, hp, rfl⟩ := List.mem_map.mp h
  have := List.find?_eq_none.mp (Option.map_eq_none_iff.mp e) p hp
  simp at this
theorem LfIs.notNone {l : Lf} {v : Value} (h : LfIs c I l v) : (v == .none) = false := by
  cases l with
  | num n => obtain ⟨t, rfl⟩ := h; rfl
  | nm s => obtain ⟨x, t, rfl, i⟩ := h; rfl
theorem told_dic (k : KF c.K) {kvs : List (Str × Lf)} {a : Addr} (hD : DicIs c I kvs a) (hg : GoodK kvs) : Fn c 88 (.ref 277) [.ref a] M I (fun r M1 I1 => M1 = M ∧ I ⊆ I1 ∧ TIs I1 (tlDic (ordS (kvs.map (·.1))) kvs) r) := by
  refine .mk fun f A m E ar => .post ?_
  refine enterP (binds := [("value", .ref a)]) (loc := []) (n := "value") (v := .ref a) k.f_told ar (by decide) (by intros; kernel_rfl) (by kernel_rfl) (fun _ => by kernel_rfl) (by kernel_rfl) (by kernel_rfl) (by kernel_rfl) (by kernel_rfl) (by kernel_rfl) fun L q A' R ar' hR o ho => ?_
  obtain ⟨od, kvs', hm, hd, hkv⟩ := hD
  have hl := hkv.length
  refine s_cons ?_
  repeat walk_at "mE"
  refine e_cell (by kernel_rfl) (.head _) ho (by kernel_rfl) (by kernel_rfl) ?_
  repeat walk_at "mE"
  refine (kind_dict k (List.mem_append_right _ (.tail _ hm)) hd).te ar' (by decide) (by decide) fun v M1 I1 ⟨e1, e2, u, e3⟩ => ?_
  subst e1 e2 e3
  repeat walk_at "mE"
  refine n_tuple (Nat.le_of_ble_eq_true rfl) fun t1 o1 h1 => ?_
  repeat walk_at "mE"
  refine e_comp (cl := [("value", L)]) (by kernel_rfl) (by decide +kernel) (by kernel_rfl) (by decide +kernel) (fun _ => by kernel_rfl) ?_
  repeat walk_at "mE"
  refine e_cell (by kernel_rfl) (.tail _ (.head _)) ho (by kernel_rfl) (by kernel_rfl) ?_
  repeat walk_at "mE"
  refine k_sortedDS (List.mem_append_right _ (.tail _ (.tail _ hm))) hd ar'.hd (by have := hg.2; omega) fun srt os vs ss hos hvs hp hs => ?_
  have hss : ss = ordS (kvs.map (·.1)) := hg.1 ss (by rw [← hkv.keys]; exact hp) hs
  have hmemk : ∀ x ∈ ss, x ∈ kvs.map (·.1) := fun x hx => by rw [← hkv.keys]; exact hp.subset hx
  have hlen : vs.length ≤ 2 := by rw [strs_len hvs, hp.length_eq, List.length_map, hl]; exact hg.2
  refine p_list (List.mem_append_left _ (.head _)) hos ar'.hd fun it oi O Wl h0 => ?_
  refine ⟨it, oi, _, _, _, O, _, fun i ys M' I' => M' = (srt, os) :: M1 ∧ (t1, o1) :: (L, o) :: I ⊆ I' ∧ TIss I' ((ss.take i).map (tlAt kvs)) ys, rfl, rfl, Wl _ _, h0, ⟨rfl, fun p hp => hp, .nil⟩, Nat.le_trans hlen (Nat.le_of_ble_eq_true rfl), ?_, ?_, ?_⟩
  · rintro i ys M' I' ⟨rfl, _, _⟩ p hp
    rcases List.mem_cons.mp hp with rfl | hp
    · exact .head _
    · cases hp
  · rintro i ys M' I' v o' C oC D oD lm hi hv ⟨rfl, hsub, hts⟩ hno hlo Ry Rn hRy hRn
    obtain ⟨key, tk, hk, rfl⟩ := strs_at hvs hv
    have hm' : (a, od) ∈ I' := hsub (.tail _ (.tail _ hm))
    have ho' : (L, o) ∈ I' := hsub (.tail _ (.head _))
    obtain ⟨l, v, hl1, hl2, hl3⟩ : ∃ l v, lfAt kvs key = some l ∧ valueAt kvs' key = some v ∧ LfIs c I l v := by
      rcases hkv.at key with ⟨e, _⟩ | h
      · exact absurd e (lfAt_some (hmemk key (List.mem_of_getElem? hk)))
      · exact h
    have hl3' : LfIs c I' l v := hl3.mono fun p hp => hsub (.tail _ (.tail _ hp))
    refine as_name ?_
    refine cn_local (fun o' => .head) hno (by kernel_rfl) (by kernel_rfl) fun oC1 hno1 => ⟨rfl, ?_⟩
    refine tt_one ?_
    repeat walk_at "mE"
    refine ce_cell (by kernel_rfl) (List.mem_append_right _ ho') ho (by kernel_rfl) (by kernel_rfl) (by kernel_rfl) ?_
    refine ce_local (List.mem_append_left _ (.head _)) hno1 .here (by kernel_rfl) (by kernel_rfl) (by kernel_rfl) ?_
    refine d_item (List.mem_append_right _ hm') hd (strKind_is _ _ _ _) hl2 (by kernel_rfl) ?_
    repeat walk_at "mE"
    refine c_isnot_no hl3'.notNone ?_
    repeat walk_at "mE"
    refine ce_local (List.mem_append_left _ (.head _)) hno1 .here (by kernel_rfl) (by kernel_rfl) (by kernel_rfl) ?_
    repeat walk_at "mE"
    refine ce_cell (by kernel_rfl) (List.mem_append_right _ ho') ho (by kernel_rfl) (by kernel_rfl) (by kernel_rfl) ?_
    refine ce_local (List.mem_append_left _ (.head _)) hno1 .here (by kernel_rfl) (by kernel_rfl) (by kernel_rfl) ?_
    refine d_item (List.mem_append_right _ hm') hd (strKind_is _ _ _ _) hl2 (by kernel_rfl) ?_
    repeat walk_at "mE"
    refine (told_lf k hl3').te ar' (by decide) (by decide) fun r M2 I2 ⟨e1, e2, e3⟩ => ?_
    subst e1
    repeat walk_at "mE"
    refine n_tuple (Nat.le_of_ble_eq_true rfl) fun t2 o2 h2 => ?_
    refine hRy.go ⟨oC1, _, rfl, ⟨_, hno1⟩, rfl, fun p hp => .tail _ (e2 (hsub hp)), ?_⟩
    rw [List.take_add_one, hk, List.map_append]
    refine (hts.mono fun p hp => .tail _ (e2 hp)).snoc ?_
    unfold tlAt
    rw [hl1]
    exact .tup (.head _) h2 (.cons .str (.cons (e3.mono fun p hp => .tail _ hp) .nil))
  · rintro ys M' I' D oD ⟨rfl, hsub, hts⟩ hlo
    repeat walk_at "mE"
    have hy : ys.length ≤ 2 := by rw [hts.length, List.length_map, List.length_take]; omega
    refine t_of (List.mem_append_left _ (.head _)) hlo (Nat.le_trans hy (Nat.le_of_ble_eq_true rfl)) fun t2 o2 h2 => ?_
    refine o_addT (List.mem_append_right _ (.tail _ (hsub (.head _)))) (.head _) h1 h2 (by simp) (.tail _ (hsub (.head _))) (by simp; rw [sizeLine_eq]; omega) fun d o3 I3 h3 hs3 hd3 => ?_
    repeat walk_at "mE"
    refine .shed (.drop .head) (.shed (.drop .head) (.of ⟨rfl, fun p hp => hs3 _ (.tail _ (hsub (.tail _ (.tail _ hp)))), .tup hd3 h3 (.cons .str ?_)⟩))
    rw [← hss, ← List.take_length (l := ss), ← strs_len hvs]
    exact hts.mono fun p hp => hs3 _ (.tail _ hp)
theorem told_vl (k : KF c.K) {l : Vl} {v : Value} (h : VlIs c I l v) (hg : GoodV l) : Fn c 87 (.ref 277) [v] M I (fun r M1 I1 => M1 = M ∧ I ⊆ I1 ∧ TIs I1 (tlV l) r) := by
  cases l with
  | num n => obtain ⟨t, rfl⟩ := h; exact (told_num k).weaken (by decide)
  | dic kvs => obtain ⟨a, rfl, hD⟩ := h; exact (told_dic k hD hg).weaken (by decide)
  | stm kvs b =>
    obtain ⟨x, a, t, rfl, i, hD⟩ := h
    refine .mk fun f A m E ar => ?_
    refine enterP (binds := [("value", .ref x)]) (loc := []) (n := "value") (v := .ref x) k.f_told ar (by decide) (by intros; kernel_rfl) (by kernel_rfl) (fun _ => by kernel_rfl) (by kernel_rfl) (by kernel_rfl) (by kernel_rfl) (by kernel_rfl) (by kernel_rfl) fun L q A' R ar' hR o ho => ?_
    have hs0 : I ⊆ (L, o) :: I := fun p hp => .tail _ hp
    replace i := i.mono hs0
    replace hD := hD.mono hs0
    refine s_cons ?_
    repeat walk_at "mE"
    refine e_cell (by kernel_rfl) (.head _) ho (by kernel_rfl) (by kernel_rfl) ?_
    repeat walk_at "mE"
    refine (kind_stream k i).te ar' (by decide) (by decide) fun v M1 I1 ⟨e1, e2, u, e3⟩ => ?_
    subst e1 e2 e3
    repeat walk_at "mE"
    refine e_cell (by kernel_rfl) (.head _) ho (by kernel_rfl) (by kernel_rfl) ?_
    walk_at "mGet"
    repeat walk_at "mE"
    refine (told_dic k hD hg.1).te ar' (by decide) (by decide) fun r M2 I2 ⟨e1, e2, e3⟩ => ?_
    subst e1
    repeat walk_at "mE"
    refine e_cell (by kernel_rfl) (e2 (.head _)) ho (by kernel_rfl) (by kernel_rfl) ?_
    replace i := i.mono e2
    walk_at "mGet"
    repeat walk_at "mE"
    refine n_bb ?_
    repeat walk_at "mE"
    refine n_tuple (Nat.le_of_ble_eq_true rfl) fun t2 o2 h2 => ?_
    repeat walk_at "mE"
    exact ⟨rfl, fun p hp => .tail _ (e2 (hs0 hp)), .tup (.head _) h2 (.cons .str (.cons (e3.mono fun p hp => .tail _ hp) (.cons .byt .nil)))⟩
end




section
variable {c : Wc} {f : Fc} {A : Around} {m : Loc} {M I : Led} {E : Value → Shared → Prop}
def HasTyI (c : Wc) (I : Led) (v t : Value) : Prop := ∀ J : Led, I ⊆ J → HasTy c J v t
theorem HasTyI.use {I I' M' : Led} {v t : Value} (h : HasTyI c I v t) (hs : I ⊆ I') : HasTy c (M' ++ I') v t := h _ fun p hp => List.mem_append_right _ (hs hp)
def tyLf : Lf → Value
  | .num _ => .type "int"
  | .nm _ => .ref 183
theorem LfIs.ty (k : KF c.K) {l : Lf} {v : Value} (h : LfIs c I l v) : HasTyI c I v (tyLf l) := by
  intro J hs
  cases l with
  | num n => obtain ⟨t, rfl⟩ := h; exact HasTy.int
  | nm s => obtain ⟨x, t, rfl, i⟩ := h; exact Inst.name (M := []) k (i.mono hs)
theorem tyNone : HasTyI c I .none (.type "NoneType") := fun J hs => HasTy.none
/-- what is no reference is handed back -/
theorem fn_fetch (k : KF c.K) {sh v ty : Value} (hT : HasTyI c I v ty) (hRf : kitOne c.K ty (.ref 254) = some false) : Fn c 90 (.ref 299) [sh, v] M I (fun r M1 I1 => M1 = M ∧ I1 = I ∧ r = v) := by
  refine .mk fun f A m E ar => .post ?_
  refine enter (binds := [("self", sh), ("value", v)]) (loc := [("value", v), ("self", sh)]) rfl k.f_Lookup_fetch ar (by decide) (by intros; kernel_rfl) (locs (by kernel_rfl)) (by decide +kernel) (by kernel_rfl) (by kernel_rfl) (by kernel_rfl) fun q A' R ar' hR => ?_
  refine s_cons ?_
  repeat walk_at "mE"
  refine s_for ?_ (fun _ => by kernel_rfl)
  repeat walk_at "mE"
  refine n_range fun ra ro hro => ?_
  repeat walk_at "mE"
  refine p_range (n := 30) (List.mem_append_right _ (.head _)) hro (by decide) ar'.hd fun it o O Wl h0 => ?_
  refine ⟨it, o, _, _, _, O, _, fun i m' M' I' => i = 0 ∧ m' = ([("here", v), ("value", v), ("self", sh)] : List (Str × Value)) ∧ M' = M ∧ I ⊆ I', rfl, rfl, Wl _ _ trivial, h0, ⟨rfl, rfl, rfl, fun p hp => .tail _ hp⟩, fun _ _ _ _ _ p hp => (by cases hp), ?_, ?_⟩
  · rintro i m' M' I' w o' hi ⟨t, rfl⟩ ⟨rfl, rfl, rfl, hsub⟩
    have hT' : HasTy c (((it, o') :: M') ++ I') v ty := hT.use hsub
    repeat walk_at "mE"
    refine r_isi hT' hRf ?_
    repeat walk_at "mE"
    exact ⟨_, rfl, after_ret (hR.go (Post.shed (Shed.sub hsub) (.of ⟨rfl, rfl, rfl⟩)))⟩
  · rintro m' M' I' ⟨h, _⟩
    cases h
/-- what a head holds at a key -/
def LfO (c : Wc) (I : Led) : Option Lf → Value → Prop
  | some l, v => LfIs c I l v
  | none, v => v = .none
theorem KF.r_lf (k : KF c.K) (l : Lf) : kitOne c.K (tyLf l) (.ref 254) = some false := by
  cases l with
  | num n => exact (k.kitF (x := .type "int") (by decide +kernel))
  | nm s => exact (k.kitF (x := .ref 183) (by decide +kernel))
abbrev ShI (c : Wc) (I : Led) (tb tr : Value) (sh : Addr) : Prop := Inst c I 363 [("table", tb), ("trailer", tr)] sh
theorem fn_get (k : KF c.K) {sh a : Addr} {tb tr : Value} {kvs : List (Str × Lf)} {key : Str} {t : Tok} (i : ShI c I tb tr sh) (hD : DicIs c I kvs a) :
    Fn c 89 (.ref 306) [.ref sh, .ref a, .str key t] M I (fun r M1 I1 => M1 = M ∧ I1 = I ∧ LfO c I (lfAt kvs key) r) := by
  refine .mk fun f A m E ar => ?_
  refine enter (binds := [("self", .ref sh), ("head", .ref a), ("key", .str key t)]) (loc := [("key", .str key t), ("head", .ref a), ("self", .ref sh)]) rfl k.f_Lookup_get ar (by decide) (by intros; kernel_rfl) (locs (by kernel_rfl)) (by decide +kernel) (by kernel_rfl) (by kernel_rfl) (by kernel_rfl) fun q A' R ar' hR => ?_
  obtain ⟨o, kvs', hm, hd, hkv⟩ := hD
  refine s_cons ?_
  repeat walk_at "mE"
  refine i.meth k.pm_Shelf_fetch k.fm_Shelf_fetch (k.fn (by decide +kernel)) rfl ?_
  repeat walk_at "mE"
  refine d_mget (List.mem_append_right _ hm) hd ?_
  repeat walk_at "mE"
  refine d_get (List.mem_append_right _ hm) hd (strKind_is _ _ _ _) ?_
  repeat walk_at "mE"
  rcases hkv.at key with ⟨e1, e2⟩ | ⟨l, v, e1, e2, hl⟩
  · rw [e2]
    rw [e1] at hR
    refine (fn_fetch k tyNone (k.kitF (by decide +kernel))).te ar' (by decide) (by decide) fun r M1 I1 ⟨q1, q2, q3⟩ => ?_
    subst q1 q2 q3
    repeat walk_at "mE"
    exact ⟨rfl, rfl, rfl⟩
  · rw [e2]
    rw [e1] at hR
    refine (fn_fetch k (hl.ty k) (k.r_lf l)).te ar' (by decide) (by decide) fun r M1 I1 ⟨q1, q2, q3⟩ => ?_
    subst q1 q2 q3
    repeat walk_at "mE"
    exact ⟨rfl, rfl, hl⟩

def isWord (w : Str) : Option Lf → Bool
  | some (.nm s) => s == w
  | _ => false
/-- the word at a key of a head, as is_of_type sees it -/
theorem fn_is_of_type (k : KF c.K) {sh a : Addr} {tb tr : Value} {kvs : List (Str × Lf)} {w : Str} {t : Tok} (i : ShI c I tb tr sh) (hD : DicIs c I kvs a) :
    Fn c 88 (.ref 458) [.ref sh, .ref a, .str w t] M I (fun r M1 I1 => M1 = M ∧ I1 = I ∧ r = .bool (isWord w (lfAt kvs "Type"))) := by
  refine .mk fun f A m E ar => ?_
  refine enter (binds := [("shelf", .ref sh), ("head", .ref a), ("word", .str w t)]) (loc := [("word", .str w t), ("head", .ref a), ("shelf", .ref sh)]) rfl k.f_is_of_type ar (by decide) (by intros; kernel_rfl) (locs (by kernel_rfl)) (by decide +kernel) (by kernel_rfl) (by kernel_rfl) (by kernel_rfl) fun q A' R ar' hR => ?_
  refine s_cons ?_
  repeat walk_at "mE"
  refine i.meth k.pm_Shelf_get k.fm_Shelf_get (k.fn (by decide +kernel)) rfl ?_
  repeat walk_at "mE"
  refine (fn_get k i hD).te ar' (by decide) (by decide) fun r M1 I1 ⟨q1, q2, q3⟩ => ?_
  subst q1 q2
  generalize lfAt kvs "Type" = ol at q3 hR
  match ol, q3, hR with
  | none, q3, hR =>
    obtain rfl : r = .none := q3
    have hT : HasTy c (M1 ++ I1) .none (.type "NoneType") := HasTy.none
    repeat walk_at "mE"
    exact ⟨rfl, rfl, rfl⟩
  | some (.num n), q3, hR =>
    obtain ⟨u, rfl⟩ := q3
    have hT : HasTy c (M1 ++ I1) (.int n u) (.type "int") := HasTy.int
    repeat walk_at "mE"
    exact ⟨rfl, rfl, rfl⟩
  | some (.nm s), q3, hR =>
    obtain ⟨x, u, rfl, ix⟩ := q3
    have hT : HasTy c (M1 ++ I1) (.ref x) (.ref 183) := ix.name k
    repeat walk_at "mE"
    walk_at "mGet"
    repeat walk_at "mE"
    refine c_eqstr ?_
    repeat walk_at "mE"
    exact ⟨rfl, rfl, rfl⟩

def isCross : Vl → Bool
  | .stm kvs _ => isWord "XRef" (lfAt kvs "Type")
  | _ => false
def isObjS : Vl → Bool
  | .stm kvs _ => isWord "ObjStm" (lfAt kvs "Type")
  | _ => false
theorem fn_is_cross (k : KF c.K) {sh : Addr} {tb tr v : Value} {l : Vl} (i : ShI c I tb tr sh) (hv : VlIs c I l v) : Fn c 88 (.ref 380) [.ref sh, v] M I (fun r M1 I1 => M1 = M ∧ I1 = I ∧ r = .bool (isCross l)) := by
  refine .mk fun f A m E ar => ?_
  refine enter (binds := [("shelf", .ref sh), ("value", v)]) (loc := [("value", v), ("shelf", .ref sh)]) rfl k.f_is_cross_stream ar (by decide) (by intros; kernel_rfl) (locs (by kernel_rfl)) (by decide +kernel) (by kernel_rfl) (by kernel_rfl) (by kernel_rfl) fun q A' R ar' hR => ?_
  refine s_cons ?_
  cases l with
  | num n =>
    obtain ⟨t, rfl⟩ := hv
    have hT : HasTy c (M ++ I) (.int n t) (.type "int") := HasTy.int
    repeat walk_at "mE"
    exact ⟨rfl, rfl, rfl⟩
  | dic kvs =>
    obtain ⟨a, rfl, o, kvs', hm, hd, hkv⟩ := hv
    have hT : HasTy c (M ++ I) (.ref a) (.type "dict") := HasTy.dict (List.mem_append_right _ hm) hd.2.choose_spec.choose_spec.1.1
    repeat walk_at "mE"
    exact ⟨rfl, rfl, rfl⟩
  | stm kvs b =>
    obtain ⟨x, a, t, rfl, ix, hD⟩ := hv
    have hT : HasTy c (M ++ I) (.ref x) (.ref 226) := ix.stream k
    repeat walk_at "mE"
    refine i.meth k.pm_Shelf_get k.fm_Shelf_get (k.fn (by decide +kernel)) rfl ?_
    repeat walk_at "mE"
    walk_at "mGet"
    repeat walk_at "mE"
    refine (fn_get k i hD).te ar' (by decide) (by decide) fun r M1 I1 ⟨q1, q2, q3⟩ => ?_
    subst q1 q2
    replace hR : Ends (fun fl _ M' I' => M' = M1 ∧ I' = I1 ∧ retOf fl = .bool (isWord "XRef" (lfAt kvs "Type"))) R := hR
    generalize lfAt kvs "Type" = ol at q3 hR
    match ol, q3, hR with
    | none, q3, hR =>
      obtain rfl : r = .none := q3
      have hT : HasTy c (M1 ++ I1) .none (.type "NoneType") := HasTy.none
      repeat walk_at "mE"
      exact ⟨rfl, rfl, rfl⟩
    | some (.num n), q3, hR =>
      obtain ⟨u, rfl⟩ := q3
      have hT : HasTy c (M1 ++ I1) (.int n u) (.type "int") := HasTy.int
      repeat walk_at "mE"
      exact ⟨rfl, rfl, rfl⟩
    | some (.nm s), q3, hR =>
      obtain ⟨x, u, rfl, iy⟩ := q3
      have hT : HasTy c (M1 ++ I1) (.ref x) (.ref 183) := iy.name k
      repeat walk_at "mE"
      walk_at "mGet"
      repeat walk_at "mE"
      refine c_eqstr ?_
      repeat walk_at "mE"
      exact ⟨rfl, rfl, rfl⟩
theorem fn_is_obj (k : KF c.K) {sh : Addr} {tb tr v : Value} {l : Vl} (i : ShI c I tb tr sh) (hv : VlIs c I l v) : Fn c 88 (.ref 387) [.ref sh, v] M I (fun r M1 I1 => M1 = M ∧ I1 = I ∧ r = .bool (isObjS l)) := by
  refine .mk fun f A m E ar => ?_
  refine enter (binds := [("shelf", .ref sh), ("value", v)]) (loc := [("value", v), ("shelf", .ref sh)]) rfl k.f_is_object_stream ar (by decide) (by intros; kernel_rfl) (locs (by kernel_rfl)) (by decide +kernel) (by kernel_rfl) (by kernel_rfl) (by kernel_rfl) fun q A' R ar' hR => ?_
  refine s_cons ?_
  repeat walk_at "mE"
  cases l with
  | num n =>
    obtain ⟨t, rfl⟩ := hv
    refine (kind_int k).te ar' (by decide) (by decide) fun v M1 I1 ⟨e1, e2, u, e3⟩ => ?_
    subst e1 e2 e3
    repeat walk_at "mE"
    exact ⟨rfl, rfl, rfl⟩
  | dic kvs =>
    obtain ⟨a, rfl, o, kvs', hm, hd, hkv⟩ := hv
    refine (kind_dict k (List.mem_append_right _ hm) hd).te ar' (by decide) (by decide) fun v M1 I1 ⟨e1, e2, u, e3⟩ => ?_
    subst e1 e2 e3
    repeat walk_at "mE"
    exact ⟨rfl, rfl, rfl⟩
  | stm kvs b =>
    obtain ⟨x, a, t, rfl, ix, hD⟩ := hv
    refine (kind_stream k ix).te ar' (by decide) (by decide) fun v M1 I1 ⟨e1, e2, u, e3⟩ => ?_
    subst e1 e2 e3
    repeat walk_at "mE"
    refine i.meth k.pm_Shelf_get k.fm_Shelf_get (k.fn (by decide +kernel)) rfl ?_
    repeat walk_at "mE"
    walk_at "mGet"
    repeat walk_at "mE"
    refine (fn_get k i hD).te ar' (by decide) (by decide) fun r M2 I2 ⟨q1, q2, q3⟩ => ?_
    subst q1 q2
    replace hR : Ends (fun fl _ M' I' => M' = M2 ∧ I' = I2 ∧ retOf fl = .bool (isWord "ObjStm" (lfAt kvs "Type"))) R := hR
    generalize lfAt kvs "Type" = ol at q3 hR
    match ol, q3, hR with
    | none, q3, hR =>
      obtain rfl : r = .none := q3
      repeat walk_at "mE"
      refine (kind_none k).te ar' (by decide) (by decide) fun v M1 I1 ⟨e1, e2, u, e3⟩ => ?_
      subst e1 e2 e3
      repeat walk_at "mE"
      exact ⟨rfl, rfl, rfl⟩
    | some (.num n), q3, hR =>
      obtain ⟨u, rfl⟩ := q3
      repeat walk_at "mE"
      refine (kind_int k).te ar' (by decide) (by decide) fun v M1 I1 ⟨e1, e2, u, e3⟩ => ?_
      subst e1 e2 e3
      repeat walk_at "mE"
      exact ⟨rfl, rfl, rfl⟩
    | some (.nm s), q3, hR =>
      obtain ⟨x, u, rfl, iy⟩ := q3
      repeat walk_at "mE"
      refine (kind_name k iy).te ar' (by decide) (by decide) fun v M1 I1 ⟨e1, e2, u, e3⟩ => ?_
      subst e1 e2 e3
      repeat walk_at "mE"
      walk_at "mGet"
      repeat walk_at "mE"
      refine c_eqstr ?_
      repeat walk_at "mE"
      exact ⟨rfl, rfl, rfl⟩
end




section
variable {c : Wc} {f : Fc} {A : Around} {m : Loc} {M I : Led} {E : Value → Shared → Prop}
theorem init_Shelf2 (k : KF c.K) {x dx tb tr : Addr} (hx : (x, instObj 363 dx) ∈ I) :
    Fn c 90 (.ref 292) [.ref x, .ref tb, .ref tr] ((dx, dictOf [] 0) :: M) I (fun r M1 I1 => r = .none ∧ I1 = I ∧ ∃ o', M1 = (dx, o') :: M ∧ SD c [("table", .ref tb), ("trailer", .ref tr)] o') := by
  refine .mk fun f A m E ar => ?_
  refine enterB (binds := [("self", .ref x), ("table", .ref tb), ("trailer", .ref tr)]) (loc := [("trailer", .ref tr), ("table", .ref tb), ("self", .ref x)]) rfl k.f_Lookup_init__ ar (by decide) (fun s Lv nm kV doc pm an ct => binds_K Lv.Xh rfl k.o_285 rfl rfl rfl) (locs (by kernel_rfl)) (by decide +kernel) (by kernel_rfl) (by kernel_rfl) (by kernel_rfl) fun q A' R ar' hR => ?_
  refine s_cons ?_
  repeat walk_at "mE"
  refine r_setattrL (kvs' := [("table", .ref tb)]) hx SD.nil (k.set (by decide +kernel)) (by kernel_rfl) (Nat.le_of_ble_eq_true rfl) fun o1 h1 => ?_
  repeat walk_at "mE"
  refine r_setattrL (kvs' := [("table", .ref tb), ("trailer", .ref tr)]) hx h1 (k.set (by decide +kernel)) (by kernel_rfl) (Nat.le_of_ble_eq_true rfl) fun o1 h1 => ?_
  repeat walk_at "mE"
  exact ⟨rfl, rfl, _, rfl, h1⟩
theorem mk_Shelf2 (k : KF c.K) {tb tr : Addr} {r : Nat} (ar : Ar f A r) (hr : r < 89) {Q : Value → Led → Led → Prop} (h : ∀ x I1, I ⊆ I1 → ShI c I1 (.ref tb) (.ref tr) x → Q (.ref x) M I1) : Te c f A m M I (call (.ref 363) [.ref tb, .ref tr]) Q E :=
  (c_make k.mk_Shelf k.in_Shelf (k.fn (by decide +kernel)) fun x dx => (init_Shelf2 k (.head _)).cd (ar.make (by omega)) (by omega) (by decide) fun v' M1 I1 ⟨e1, e2, o', e3, hs⟩ => ⟨e1, by
    subst e2 e3
    exact ⟨M, _, Shed.freeze .head, h x _ (fun p hp => .tail _ (.tail _ hp)) ⟨dx, o', .tail _ (.head _), .head _, hs⟩⟩⟩).post
theorem init_Shelf1 (k : KF c.K) {x dx tb : Addr} (hx : (x, instObj 363 dx) ∈ I) :
    Fn c 90 (.ref 292) [.ref x, .ref tb] ((dx, dictOf [] 0) :: M) I (fun r M1 I1 => r = .none ∧ I1 = I ∧ ∃ o' tr otr, M1 = (tr, otr) :: (dx, o') :: M ∧ DS c tr [] otr ∧ SD c [("table", .ref tb), ("trailer", .ref tr)] o') := by
  refine .mk fun f A m E ar => ?_
  refine enterB (binds := [("self", .ref x), ("table", .ref tb), ("trailer", .none)]) (loc := [("trailer", .none), ("table", .ref tb), ("self", .ref x)]) rfl k.f_Lookup_init__ ar (by decide) (fun s Lv nm kV doc pm an ct => binds_K Lv.Xh rfl k.o_285 rfl rfl rfl) (locs (by kernel_rfl)) (by decide +kernel) (by kernel_rfl) (by kernel_rfl) (by kernel_rfl) fun q A' R ar' hR => ?_
  refine s_cons ?_
  repeat walk_at "mE"
  refine r_setattrL (kvs' := [("table", .ref tb)]) hx SD.nil (k.set (by decide +kernel)) (by kernel_rfl) (Nat.le_of_ble_eq_true rfl) fun o1 h1 => ?_
  repeat walk_at "mE"
  refine d_new fun tr otr htr _ => ?_
  repeat walk_at "mE"
  refine r_setattr (M' := fun o' => (tr, otr) :: (dx, o') :: M) hx (fun _ => .tail .head) h1 (k.set (by decide +kernel)) (Nat.le_of_ble_eq_true rfl) fun o1 h1 => ?_
  have e : putK "trailer" (.ref tr) ([("table", .ref tb)] : List (Str × Value)) = ([("table", .ref tb), ("trailer", .ref tr)] : List (Str × Value)) := by kernel_rfl
  rw [e] at h1
  repeat walk_at "mE"
  exact ⟨rfl, rfl, _, tr, otr, rfl, htr, h1⟩
theorem mk_Shelf1 (k : KF c.K) {tb : Addr} {r : Nat} (ar : Ar f A r) (hr : r < 89) {Q : Value → Led → Led → Prop} (h : ∀ x tr I1, I ⊆ I1 → ShI c I1 (.ref tb) (.ref tr) x → DicIs c I1 [] tr → Q (.ref x) M I1) : Te c f A m M I (call (.ref 363) [.ref tb]) Q E :=
  (c_make k.mk_Shelf k.in_Shelf (k.fn (by decide +kernel)) fun x dx => (init_Shelf1 k (.head _)).cd (ar.make (by omega)) (by omega) (by decide) fun v' M1 I1 ⟨e1, e2, o', tr, otr, e3, ht, hs⟩ => ⟨e1, by
    subst e2 e3
    exact ⟨M, _, (Shed.freeze .head).trans (Shed.freeze .head), h x tr _ (fun p hp => .tail _ (.tail _ (.tail _ hp))) ⟨dx, o', .tail _ (.tail _ (.head _)), .head _, hs⟩ ⟨otr, [], .tail _ (.head _), ht, .nil⟩⟩⟩).post

/-! pieces -/
structure Pc where
  num : Nat
  gen : Nat
  beg : Nat
  fin : Nat
  val : Vl
def PcIs (c : Wc) (I : Led) (p : Pc) (v : Value) : Prop := ∃ x v1 t1 t2 t3 t4, v = .ref x ∧ Inst c I 419 [("number", .int p.num t1), ("generation", .int p.gen t2), ("begun", .int p.beg t3), ("end", .int p.fin t4), ("value", v1)] x ∧ VlIs c I p.val v1
theorem PcIs.mono {I I' : Led} {p : Pc} {v : Value} (hs : I ⊆ I') (h : PcIs c I p v) : PcIs c I' p v :=
  let ⟨x, v1, t1, t2, t3, t4, e, i, hv⟩ := h; ⟨x, v1, t1, t2, t3, t4, e, i.mono hs, hv.mono hs⟩
def tlP (p : Pc) : Tr := .tup [.int p.num, .int p.gen, .int p.beg, .int p.fin]
theorem fn_told_piece (k : KF c.K) {p : Pc} {v : Value} (h : PcIs c I p v) : Fn c 90 (.ref 416) [v] M I (fun r M1 I1 => M1 = M ∧ I ⊆ I1 ∧ TIs I1 (tlP p) r) := by
  obtain ⟨x, v1, t1, t2, t3, t4, rfl, i, hv⟩ := h
  refine .mk fun f A m E ar => ?_
  refine enter (binds := [("self", .ref x)]) (loc := [("self", .ref x)]) rfl k.f_Piece_told ar (by decide) (by intros; kernel_rfl) (locs (by kernel_rfl)) (by decide +kernel) (by kernel_rfl) (by kernel_rfl) (by kernel_rfl) fun q A' R ar' hR => ?_
  refine s_cons ?_
  repeat (first | walk_at "mE" | walk_at "mGet")
  refine n_tuple (Nat.le_of_ble_eq_true rfl) fun t2 o2 h2 => ?_
  repeat walk_at "mE"
  exact ⟨rfl, fun p hp => .tail _ hp, .tup (.head _) h2 (.cons .int (.cons .int (.cons .int (.cons .int .nil))))⟩
end



/-! lists of values that stand for lists of data -/
inductive Al {α : Type} (R : α → Value → Prop) : List α → List Value → Prop
  | nil : Al R [] []
  | cons {x : α} {v : Value} {xs : List α} {vs : List Value} : R x v → Al R xs vs → Al R (x :: xs) (v :: vs)
section
variable {α : Type} {R R' : α → Value → Prop}
theorem Al.imp (hr : ∀ x v, R x v → R' x v) : ∀ {xs : List α} {vs : List Value}, Al R xs vs → Al R' xs vs
  | _, _, .nil => .nil
  | _, _, .cons h r => .cons (hr _ _ h) (r.imp hr)
theorem Al.length : ∀ {xs : List α} {vs : List Value}, Al R xs vs → vs.length = xs.length
  | _, _, .nil => rfl
  | _, _, .cons _ r => by simp [r.length]
theorem Al.at : ∀ {xs : List α} {vs : List Value}, Al R xs vs → ∀ {i : Nat} {v : Value}, vs[i]? = some v → ∃ x, xs[i]? = some x ∧ R x v
  | _, _, .nil, i, v, e => by simp at e
  | _, _, .cons h r, 0, v, e => by cases e; exact ⟨_, rfl, h⟩
  | _, _, .cons h r, i + 1, v, e => by simpa using r.at (by simpa using e)
theorem Al.append : ∀ {xs : List α} {vs : List Value}, Al R xs vs → ∀ {ys : List α} {ws : List Value}, Al R ys ws → Al R (xs ++ ys) (vs ++ ws)
  | _, _, .nil, _, _, h => h
  | _, _, .cons h r, _, _, h' => .cons h (r.append h')
theorem Al.snoc {xs : List α} {vs : List Value} (h : Al R xs vs) {x : α} {v : Value} (hx : R x v) : Al R (xs ++ [x]) (vs ++ [v]) := h.append (.cons hx .nil)
end
abbrev PcsIs (c : Wc) (I : Led) : List Pc → List Value → Prop := Al (PcIs c I)
theorem PcsIs.mono {c : Wc} {I I' : Led} {ps : List Pc} {vs : List Value} (hs : I ⊆ I') (h : PcsIs c I ps vs) : PcsIs c I' ps vs := h.imp fun _ _ => PcIs.mono hs

theorem VlIs.handed {c : Wc} {I : Led} {l : Vl} {v : Value} (h : VlIs c I l v) : handedIn v = true := by
  cases l with
  | num n => obtain ⟨t, rfl⟩ := h; rfl
  | dic kvs => obtain ⟨a, rfl, _⟩ := h; rfl
  | stm kvs b => obtain ⟨x, a, t, rfl, _⟩ := h; rfl
/-! tables -/
structure Ent where
  gen : Nat
  val : Vl
abbrev Tab := List (Nat × Ent)
def EntIs (c : Wc) (I : Led) (e : Ent) (v : Value) : Prop := ∃ a o v1 t, v = .ref a ∧ (a, o) ∈ I ∧ TO [.int e.gen t, v1] o ∧ VlIs c I e.val v1
theorem EntIs.mono {c : Wc} {I I' : Led} {e : Ent} {v : Value} (hs : I ⊆ I') (h : EntIs c I e v) : EntIs c I' e v := let ⟨a, o, v1, t, x, y, z, w⟩ := h; ⟨a, o, v1, t, x, hs y, z, w.mono hs⟩
inductive TbIs (c : Wc) (I : Led) : Tab → List (Int × Value) → Prop
  | nil : TbIs c I [] []
  | cons {n : Nat} {e : Ent} {v : Value} {T : Tab} {kvs : List (Int × Value)} : EntIs c I e v → TbIs c I T kvs → TbIs c I ((n, e) :: T) (((n : Int), v) :: kvs)
theorem TbIs.mono {c : Wc} {I I' : Led} {T : Tab} {kvs : List (Int × Value)} (hs : I ⊆ I') (h : TbIs c I T kvs) : TbIs c I' T kvs := by
  induction h with
  | nil => exact .nil
  | cons h _ ih => exact .cons (h.mono hs) ih
theorem TbIs.keys {c : Wc} {I : Led} {T : Tab} {kvs : List (Int × Value)} (h : TbIs c I T kvs) : kvs.map (·.1) = T.map fun p => (p.1 : Int) := by
  induction h with
  | nil => rfl
  | cons _ _ ih => simp [ih]
theorem TbIs.length {c : Wc} {I : Led} {T : Tab} {kvs : List (Int × Value)} (h : TbIs c I T kvs) : kvs.length = T.length := by
  have := congrArg List.length h.keys
  simpa using this
def put {α : Type} (T : List (Nat × α)) (n : Nat) (e : α) : List (Nat × α) := if T.any (fun p => p.1 == n) then T.map (fun p => if p.1 == n then (p.1, e) else p) else T ++ [(n, e)]
def get {α : Type} (T : List (Nat × α)) (n : Nat) : Option α := (T.find? fun p => p.1 == n).map (·.2)
def wo {α : Type} (T : List (Nat × α)) (n : Nat) : List (Nat × α) := T.filter fun p => !(p.1 == n)
theorem put_length_le {α : Type} (T : List (Nat × α)) (n : Nat) (e : α) : (put T n e).length ≤ T.length + 1 := by unfold put; split <;> simp
theorem nat_eq_iff (a b : Nat) : decide ((a : Int) = (b : Int)) = (a == b) := by
  rw [Bool.eq_iff_iff, decide_eq_true_iff, beq_iff_eq]; omega
theorem TbIs.any {c : Wc} {I : Led} {T : Tab} {kvs : List (Int × Value)} (h : TbIs c I T kvs) (n : Nat) : (kvs.any fun kv => kv.1 = (n : Int)) = T.any fun p => p.1 == n := by
  induction h with
  | nil => rfl
  | @cons k e v T kvs _ _ ih => rw [List.any_cons, List.any_cons, ih]; congr 1; exact nat_eq_iff k n
theorem TbIs.put {c : Wc} {I : Led} {T : Tab} {kvs : List (Int × Value)} (h : TbIs c I T kvs) (n : Nat) {e : Ent} {v : Value} (he : EntIs c I e v) : TbIs c I (put T n e) (stored kvs (n : Int) v) := by
  unfold Mine.put stored
  rw [h.any n]
  split
  · rename_i hq; clear hq
    induction h with
    | nil => exact .nil
    | @cons k e' v' T kvs h' _ ih =>
      rw [List.map_cons, List.map_cons]
      by_cases e1 : k = n
      · subst e1
        simp only [beq_self_eq_true, if_true]
        exact .cons he ih
      · have : ¬ ((k : Int) = (n : Int)) := by omega
        simp only [this, if_false, beq_eq_false_iff_ne.mpr e1]
        exact .cons h' ih
  · rename_i hq; clear hq
    induction h with
    | nil => exact .cons he .nil
    | cons h' _ ih => exact .cons h' ih
theorem TbIs.at {c : Wc} {I : Led} {T : Tab} {kvs : List (Int × Value)} (h : TbIs c I T kvs) (n : Nat) : (get T n = none ∧ valueAt kvs (n : Int) = none) ∨ ∃ e v, get T n = some e ∧ valueAt kvs (n : Int) = some v ∧ EntIs c I e v := by
  induction h with
  | nil => exact .inl ⟨rfl, rfl⟩
  | @cons k e v T kvs h _ ih =>
    unfold get valueAt at ih ⊢
    rw [List.find?_cons, List.find?_cons]
    by_cases e1 : k = n
    · subst e1
      simp only [decide_true, beq_self_eq_true]
      exact .inr ⟨e, v, rfl, rfl, h⟩
    · have : ¬ ((k : Int) = (n : Int)) := by omega
      simp only [this, decide_false, beq_eq_false_iff_ne.mpr e1]
      exact ih
theorem TbIs.wo {c : Wc} {I : Led} {T : Tab} {kvs : List (Int × Value)} (h : TbIs c I T kvs) (n : Nat) : TbIs c I (wo T n) (without kvs (n : Int)) := by
  unfold Mine.wo without
  induction h with
  | nil => exact .nil
  | @cons k e v T kvs h _ ih =>
    rw [List.filter_cons, List.filter_cons]
    by_cases e1 : k = n
    · subst e1
      simpa using ih
    · have : ((k : Int) ≠ (n : Int)) := by omega
      simp only [ne_eq, this, not_false_eq_true, decide_true, beq_eq_false_iff_ne.mpr e1, Bool.not_false, if_true]
      exact .cons h ih
def tableStep (T : Tab) (p : Pc) : Tab := if 0 < p.num then put T p.num ⟨p.gen, p.val⟩ else T
def tableOf (ps : List Pc) : Tab := ps.foldl tableStep []
theorem foldl_take_succ {α β : Type} (f : β → α → β) (b : β) (xs : List α) {i : Nat} {x : α} (h : xs[i]? = some x) : (xs.take (i + 1)).foldl f b = f ((xs.take i).foldl f b) x := by
  rw [List.take_add_one, h, List.foldl_append]
  rfl
theorem table_length_le (ps : List Pc) : (tableOf ps).length ≤ ps.length := by
  have : ∀ (ps : List Pc) (T : Tab), (ps.foldl tableStep T).length ≤ T.length + ps.length := by
    intro ps
    induction ps with
    | nil => intro T; exact Nat.le_refl _
    | cons p ps ih =>
      intro T
      rw [List.foldl_cons, List.length_cons]
      have h1 := ih (tableStep T p)
      have h2 : (tableStep T p).length ≤ T.length + 1 := by
        unfold tableStep
        split
        · exact put_length_le _ _ _
        · omega
      omega
  have := this ps []
  rw [List.length_nil, Nat.zero_add] at this
  exact this




section
variable {c : Wc} {f : Fc} {A : Around} {m : Loc} {M I : Led} {E : Value → Shared → Prop}
theorem line_of {n : Nat} (h : n ≤ 1000) : n ≤ sizeLine := by rw [sizeLine_eq]; omega
theorem src1 {l : Addr} {ol : Obj} {X : Led} (h : (l, ol) ∈ X) : ∀ p ∈ [(l, ol)], p ∈ X := fun p hp => by
  rcases List.mem_cons.mp hp with rfl | hp
  · exact h
  · cases hp
theorem fn_table_of (k : KF c.K) {ps : List Pc} {l : Addr} {ol : Obj} {vs : List Value} (hm : (l, ol) ∈ I) (hl : LO vs ol) (hp : PcsIs c I ps vs) (hz : ps.length ≤ 100) :
    Fn c 89 (.ref 451) [.ref l] M I (fun r M1 I1 => I ⊆ I1 ∧ ∃ tb otb kvs, r = .ref tb ∧ M1 = (tb, otb) :: M ∧ DI c tb kvs otb ∧ TbIs c I1 (tableOf ps) kvs) := by
  refine .mk fun f A m E ar => ?_
  refine enter (binds := [("pieces", .ref l)]) (loc := [("pieces", .ref l)]) rfl k.f_table_of ar (by decide) (by intros; kernel_rfl) (locs (by kernel_rfl)) (by decide +kernel) (by kernel_rfl) (by kernel_rfl) (by kernel_rfl) fun q A' R ar' hR => ?_
  have hlen := hp.length
  refine s_cons ?_
  repeat walk_at "mE"
  refine d_new fun tb otb _ hdi => ?_
  repeat walk_at "mE"
  refine s_for ?_ (fun _ => by kernel_rfl)
  repeat walk_at "mE"
  refine p_list (List.mem_append_right _ hm) hl ar'.hd fun it o O Wl h0 => ?_
  refine ⟨it, o, _, _, _, O, _, fun i m' M' I' => Look "table" (.ref tb) m' ∧ I ⊆ I' ∧ ∃ otb kvs, M' = (tb, otb) :: M ∧ DI c tb kvs otb ∧ TbIs c I' (tableOf (ps.take i)) kvs, rfl, rfl, Wl _ _, h0, ⟨.here, fun p hp => hp, otb, [], rfl, hdi, .nil⟩, ?_, ?_, ?_⟩
  · rintro i m' M' I' ⟨_, hs, _⟩
    exact src1 (List.mem_append_right _ (hs hm))
  · rintro i m' M' I' v o' hi hv ⟨hlk, hs, otb, kvs, rfl, hd, ht⟩
    obtain ⟨p, hpi, x, v1, t1, t2, t3, t4, rfl, ip, hvl⟩ := (hp.mono hs).at hv
    have hh := hvl.handed
    have hlt : kvs.length ≤ 100 := by
      rw [ht.length]
      have := table_length_le (ps.take i)
      rw [List.length_take] at this
      omega
    have hT : tableOf (ps.take (i + 1)) = tableStep (tableOf (ps.take i)) p := foldl_take_succ _ _ _ hpi
    repeat walk_at "mE"
    walk_at "mGet"
    repeat walk_at "mE"
    refine c_gt ?_
    repeat walk_at "mE"
    refine ite_in (fun hb => ?_) (fun hb => ?_)
    · have hb' : 0 < p.num := by have := of_decide_eq_true hb; omega
      repeat (first | walk_at "mE" | walk_at "mGet")
      refine n_tuple (Nat.le_of_ble_eq_true rfl) fun a2 o2 h2 => ?_
      replace ip := ip.mono (I' := (a2, o2) :: I') fun p hp => .tail _ hp
      repeat (first | walk_at "mE" | walk_at "mGet")
      refine d_set (M' := fun o1 => (it, o') :: (tb, o1) :: M) (fun _ => .tail .head) hd (intKind_is _ _ _ _) (line_of (by omega)) fun o3 hd3 => ?_
      repeat walk_at "mE"
      refine ⟨_, rfl, .there (by decide +kernel) hlk, fun p hp => .tail _ (hs hp), o3, _, rfl, hd3, ?_⟩
      rw [hT]
      unfold tableStep
      rw [if_pos hb']
      exact (ht.mono fun p hp => .tail _ hp).put _ ⟨a2, o2, v1, _, rfl, .head _, h2, hvl.mono fun p hp => .tail _ hp⟩
    · have hb' : ¬ 0 < p.num := by have := of_decide_eq_false hb; omega
      repeat walk_at "mE"
      refine ⟨_, rfl, .there (by decide +kernel) hlk, hs, otb, _, rfl, hd, ?_⟩
      rw [hT]
      unfold tableStep
      rw [if_neg hb']
      exact ht
  · rintro m' M' I' ⟨hlk, hs, otb, kvs, rfl, hd, ht⟩
    repeat walk_at "mE"
    refine ⟨hs, tb, otb, kvs, rfl, rfl, hd, ?_⟩
    rw [hlen, List.take_length] at ht
    exact ht
/-- the numbers of a table, sorted -/
theorem fn_numbers (k : KF c.K) {sh tb : Addr} {tr : Value} {otb : Obj} {kvs : List (Int × Value)} (i : ShI c I (.ref tb) tr sh) (hm : (tb, otb) ∈ M ++ I) (hd : DI c tb kvs otb) (hz : kvs.length < 64) :
    Fn c 90 (.ref 348) [.ref sh] M I (fun r M1 I1 => I1 = I ∧ ∃ a o vs ns, r = .ref a ∧ M1 = (a, o) :: M ∧ LO vs o ∧ IntsAre vs ns ∧ ns.Perm (kvs.map (·.1)) ∧ ns.Pairwise (· ≤ ·)) := by
  refine .mk fun f A m E ar => ?_
  refine enter (binds := [("self", .ref sh)]) (loc := [("self", .ref sh)]) rfl k.f_Shelf_numbers ar (by decide) (by intros; kernel_rfl) (locs (by kernel_rfl)) (by decide +kernel) (by kernel_rfl) (by kernel_rfl) (by kernel_rfl) fun q A' R ar' hR => ?_
  refine s_cons ?_
  repeat (first | walk_at "mE" | walk_at "mGet")
  refine k_sortedDI hm hd ar'.hd hz fun a o vs ns h1 h2 h3 h4 => ?_
  repeat walk_at "mE"
  exact ⟨rfl, a, o, vs, ns, rfl, rfl, h1, h2, h3, h4⟩
theorem fn_drop (k : KF c.K) {sh tb : Addr} {tr v : Value} {otb : Obj} {kvs : List (Int × Value)} {n : Int} {t : Tok} {M' : Obj → Led} (i : ShI c I (.ref tb) tr sh) (U : ∀ o', Up tb otb o' M (M' o')) (hd : DI c tb kvs otb) (hl : valueAt kvs n = some v) (hz : kvs.length ≤ 100) :
    Fn c 90 (.ref 341) [.ref sh, .int n t] M I (fun r M1 I1 => I1 = I ∧ ∃ o', M1 = M' o' ∧ DI c tb (without kvs n) o') := by
  refine .mk fun f A m E ar => ?_
  refine enter (binds := [("self", .ref sh), ("number", .int n t)]) (loc := [("number", .int n t), ("self", .ref sh)]) rfl k.f_Shelf_drop ar (by decide) (by intros; kernel_rfl) (locs (by kernel_rfl)) (by decide +kernel) (by kernel_rfl) (by kernel_rfl) (by kernel_rfl) fun q A' R ar' hR => ?_
  refine s_cons ?_
  repeat (first | walk_at "mE" | walk_at "mGet")
  refine d_in (List.mem_append_left _ (U otb).mem) hd (intKind_is _ _ _ _) ?_
  rw [hl, Option.isSome_some]
  repeat (first | walk_at "mE" | walk_at "mGet")
  refine d_mpop (List.mem_append_left _ (U otb).mem) hd ?_
  repeat walk_at "mE"
  refine d_pop U hd (intKind_is _ _ _ _) rfl (PySem.F.args_dict_pop_2 _ _) hl (line_of (by omega)) fun o' hd' => ?_
  repeat walk_at "mE"
  exact ⟨rfl, o', rfl, hd'⟩
end




def fileS (l : Vl) : Bool := isObjS l || isCross l
def dropT (T : Tab) : Tab := T.filter fun p => !fileS p.2.val
def dropI (T : Tab) (ns : List Int) (i : Nat) : Tab := T.filter fun p => !(decide ((p.1 : Int) ∈ ns.take i) && fileS p.2.val)
theorem get_filter {α : Type} {T : List (Nat × α)} {p : Nat × α → Bool} {n : Nat} (h : ∀ x ∈ T, x.1 = n → p x = true) : get (T.filter p) n = get T n := by
  unfold get
  induction T with
  | nil => rfl
  | cons x T ih =>
    have ih' := ih fun y hy => h y (.tail _ hy)
    rw [List.filter_cons, List.find?_cons]
    by_cases e : x.1 = n
    · rw [if_pos (h x (.head _) e), List.find?_cons, beq_iff_eq.mpr e]
    · by_cases hp : p x = true
      · rw [if_pos hp, List.find?_cons, beq_eq_false_iff_ne.mpr e]; exact ih'
      · rw [if_neg hp, beq_eq_false_iff_ne.mpr e]; exact ih'
theorem get_some {α : Type} {T : List (Nat × α)} {n : Nat} (h : n ∈ T.map (·.1)) : ∃ e, get T n = some e ∧ (n, e) ∈ T := by
  obtain ⟨p, hp, rfl⟩ := List.mem_map.mp h
  unfold get
  cases hf : T.find? fun q => q.1 == p.1 with
  | none => have := List.find?_eq_none.mp hf p hp; simp at this
  | some q =>
    have h1 := List.find?_some hf
    have h2 := List.mem_of_find?_eq_some hf
    have h3 : q.1 = p.1 := by simpa using h1
    exact ⟨q.2, rfl, by rw [← h3]; exact h2⟩
theorem key_inj {α : Type} {T : List (Nat × α)} (hn : (T.map (·.1)).Nodup) {x y : Nat × α} (hx : x ∈ T) (hy : y ∈ T) (e : x.1 = y.1) : x = y := by
  induction T with
  | nil => cases hx
  | cons z T ih =>
    rw [List.map_cons, List.nodup_cons] at hn
    rcases List.mem_cons.mp hx with hx1 | hx1
    · rcases List.mem_cons.mp hy with hy1 | hy1
      · rw [hx1, hy1]
      · exact absurd (by rw [← hx1, e]; exact List.mem_map_of_mem (f := (·.1)) hy1) hn.1
    · rcases List.mem_cons.mp hy with hy1 | hy1
      · exact absurd (by rw [← hy1, ← e]; exact List.mem_map_of_mem (f := (·.1)) hx1) hn.1
      · exact ih hn.2 hx1 hy1
theorem take_mem_succ {ns : List Int} {i : Nat} {n : Int} (h : ns[i]? = some n) (x : Int) : x ∈ ns.take (i + 1) ↔ x ∈ ns.take i ∨ x = n := by
  rw [List.take_add_one, h, List.mem_append]; simp
theorem not_mem_take {ns : List Int} (hn : ns.Nodup) {i : Nat} {n : Int} (h : ns[i]? = some n) : n ∉ ns.take i := by
  intro hm
  obtain ⟨j, hj, e⟩ := List.mem_iff_getElem.mp hm
  rw [List.length_take] at hj
  have hi : i < ns.length := by
    rcases Nat.lt_or_ge i ns.length with h' | h'
    · exact h'
    · rw [List.getElem?_eq_none h'] at h; cases h
  rw [List.getElem_take] at e
  have e2 : ns[i] = n := by rw [List.getElem?_eq_getElem hi] at h; exact Option.some.inj h
  have := (List.getElem_inj hn).mp (e.trans e2.symm)
  omega
theorem drop_step {T : Tab} (hT : (T.map (·.1)).Nodup) {ns : List Int} (hn : ns.Nodup) {i : Nat} {n : Nat} (hi : ns[i]? = some (n : Int)) (hm : n ∈ T.map (·.1)) :
    ∃ e, get (dropI T ns i) n = some e ∧ (if fileS e.val = true then wo (dropI T ns i) n else dropI T ns i) = dropI T ns (i + 1) := by
  obtain ⟨e, he, hmem⟩ := get_some hm
  refine ⟨e, ?_, ?_⟩
  · unfold dropI
    rw [get_filter fun x hx e1 => ?_, he]
    have := not_mem_take hn hi
    rw [← e1] at this
    simp [this]
  · have key : ∀ x ∈ T, x.1 = n → x.2 = e := fun x hx e1 => congrArg Prod.snd (key_inj hT hx hmem e1)
    unfold dropI wo
    split
    · rename_i hf
      rw [List.filter_filter]
      refine List.filter_congr fun x hx => ?_
      by_cases e1 : x.1 = n
      · have h1 : (x.1 : Int) ∈ ns.take (i + 1) := (take_mem_succ hi _).mpr (.inr (by rw [e1]))
        have h1' := h1
        rw [e1] at h1'
        simp [h1', e1, key x hx e1, hf]
      · have h1 : ((x.1 : Int) ∈ ns.take (i + 1)) ↔ (x.1 : Int) ∈ ns.take i := by
          rw [take_mem_succ hi]
          exact ⟨fun h => h.elim id fun h => absurd h (by omega), .inl⟩
        simp [h1, e1]
    · rename_i hf
      refine List.filter_congr fun x hx => ?_
      by_cases e1 : x.1 = n
      · have h2 : fileS x.2.val = false := by rw [key x hx e1]; exact Bool.eq_false_iff.mpr hf
        simp [h2]
      · have h1 : ((x.1 : Int) ∈ ns.take (i + 1)) ↔ (x.1 : Int) ∈ ns.take i := by
          rw [take_mem_succ hi]
          exact ⟨fun h => h.elim id fun h => absurd h (by omega), .inl⟩
        simp [h1]
theorem drop_start (T : Tab) (ns : List Int) : dropI T ns 0 = T := by
  unfold dropI
  simp
theorem drop_end {T : Tab} {ns : List Int} (h : ∀ p ∈ T, (p.1 : Int) ∈ ns) : dropI T ns ns.length = dropT T := by
  unfold dropI dropT
  refine List.filter_congr fun x hx => ?_
  rw [List.take_length]
  simp [h x hx]
theorem nodup_of_cast {T : Tab} (h : (T.map fun p => (p.1 : Int)).Nodup) : (T.map (·.1)).Nodup := by
  have e : (T.map fun p => (p.1 : Int)) = (T.map (·.1)).map (fun n : Nat => (n : Int)) := by simp
  rw [e] at h
  exact List.Pairwise.of_map (fun n : Nat => (n : Int)) (fun a b hne e => hne (by rw [e])) h
theorem ints_at' {vs : List Value} {ns : List Int} (h : IntsAre vs ns) {i : Nat} {v : Value} (e : vs[i]? = some v) : ∃ n t, ns[i]? = some n ∧ v = .int n t := by
  have hi : i < ns.length := by
    rw [← h.length]
    rcases Nat.lt_or_ge i vs.length with h' | h'
    · exact h'
    · rw [List.getElem?_eq_none h'] at e; cases e
  have : ∀ {vs : List Value} {ns : List Int}, IntsAre vs ns → ∀ {i : Nat} {v : Value}, vs[i]? = some v → ∃ n t, ns[i]? = some n ∧ v = .int n t := by
    intro vs ns h
    induction h with
    | nil => intro i v e; simp at e
    | cons n t h ih =>
      intro i v e
      cases i with
      | zero => cases e; exact ⟨_, _, rfl, rfl⟩
      | succ i => simpa using ih (by simpa using e)
  exact this h e
section
variable {c : Wc} {f : Fc} {A : Around} {m : Loc} {M I : Led} {E : Value → Shared → Prop}
theorem fn_drop_files (k : KF c.K) {sh tb : Addr} {tr : Value} {otb : Obj} {T : Tab} {kvs : List (Int × Value)} {M' : Obj → Led} (i : ShI c I (.ref tb) tr sh) (U : ∀ o o', Up tb o o' (M' o) (M' o')) (hd : DI c tb kvs otb) (ht : TbIs c I T kvs) (hz : kvs.length < 64) :
    Fn c 87 (.ref 395) [.ref sh] (M' otb) I (fun r M1 I1 => I1 = I ∧ ∃ o' kvs', M1 = M' o' ∧ DI c tb kvs' o' ∧ TbIs c I (dropT T) kvs') := by
  refine .mk fun f A m E ar => .post ?_
  refine enter (binds := [("shelf", .ref sh)]) (loc := [("shelf", .ref sh)]) rfl k.f_drop_file_streams ar (by decide) (by intros; kernel_rfl) (locs (by kernel_rfl)) (by decide +kernel) (by kernel_rfl) (by kernel_rfl) (by kernel_rfl) fun q A' R ar' hR => ?_
  have hkn := hd.nodup
  rw [ht.keys] at hkn
  have hTn := nodup_of_cast hkn
  refine s_cons ?_
  refine s_for ?_ (fun _ => by kernel_rfl)
  repeat walk_at "mE"
  refine i.meth k.pm_Shelf_numbers k.fm_Shelf_numbers (k.fn (by decide +kernel)) rfl ?_
  repeat walk_at "mE"
  refine (fn_numbers k i (List.mem_append_left _ (U otb otb).mem) hd hz).te ar' (by decide) (by decide) fun r M1 I1 ⟨e1, a, o, vs, ns, e2, e3, ho, hvs, hp, hw⟩ => ?_
  subst e1 e2 e3
  have hnn : ns.Nodup := hp.nodup_iff.mpr (by rw [ht.keys]; exact hkn)
  refine p_list (List.mem_append_left _ (.head _)) ho ar'.hd fun it oi O Wl h0 => ?_
  refine ⟨it, oi, _, _, _, O, _, fun i' m' M1 I' => Look "shelf" (.ref sh) m' ∧ I' = I1 ∧ ∃ o' kvs', M1 = (a, o) :: M' o' ∧ DI c tb kvs' o' ∧ TbIs c I1 (dropI T ns i') kvs', rfl, rfl, Wl _ _, h0, ⟨.here, rfl, otb, kvs, rfl, hd, by rw [drop_start]; exact ht⟩, ?_, ?_, ?_⟩
  · rintro i' m' M1 I' ⟨_, _, o', kvs', rfl, _⟩
    exact src1 (.head _)
  · rintro j m' M1 I' v o' hj hv ⟨hlk, rfl, o1, kvs', rfl, hd', ht'⟩
    obtain ⟨n', t, hn', rfl⟩ := ints_at' hvs hv
    have hmem : n' ∈ T.map fun p => (p.1 : Int) := by rw [← ht.keys]; exact hp.subset (List.mem_of_getElem? hn')
    obtain ⟨q, hq, rfl⟩ := List.mem_map.mp hmem
    obtain ⟨e, he, hst⟩ := drop_step hTn hnn hn' (List.mem_map_of_mem (f := (·.1)) hq)
    obtain ⟨e', v', he', hv', a1, oa1, v1, t1, rfl, hma, hoa, hvl⟩ : ∃ e' v', get (dropI T ns j) q.1 = some e' ∧ valueAt kvs' (q.1 : Int) = some v' ∧ EntIs c I' e' v' := by
      rcases ht'.at q.1 with ⟨h1, _⟩ | h1
      · rw [h1] at he; cases he
      · exact h1
    rw [he] at he'
    cases he'
    have hlt : kvs'.length ≤ 100 := by
      rw [ht'.length]
      have h1 : (dropI T ns j).length ≤ T.length := List.length_filter_le _ _
      rw [← ht.length] at h1
      omega
    repeat (first | walk_at "mE" | walk_at "mGet")
    refine d_item (List.mem_append_left _ (.tail _ (.tail _ (U o1 o1).mem))) hd' (intKind_is _ _ _ _) hv' (by kernel_rfl) ?_
    repeat walk_at "mE"
    refine i_tuple (List.mem_append_right _ hma) hoa (by decide) (by decide) rfl (by kernel_rfl) ?_
    repeat walk_at "mE"
    refine (fn_is_obj k i hvl).te ar' (by decide) (by decide) fun r M2 I2 ⟨q1, q2, q3⟩ => ?_
    subst q1 q2 q3
    repeat walk_at "mE"
    cases hb : isObjS e.val
    · repeat walk_at "mE"
      refine (fn_is_cross k i hvl).te ar' (by decide) (by decide) fun r M2 I2 ⟨q1, q2, q3⟩ => ?_
      subst q1 q2 q3
      repeat walk_at "mE"
      cases hc : isCross e.val
      · have hfs : ¬ fileS e.val = true := by simp [fileS, hb, hc]
        repeat walk_at "mE"
        refine ⟨_, rfl, .there (by decide +kernel) (.there (by decide +kernel) hlk), rfl, o1, _, rfl, hd', ?_⟩
        rw [← hst, if_neg hfs]
        exact ht'
      have hfs : fileS e.val = true := by simp [fileS, hb, hc]
      repeat walk_at "mE"
      refine i.meth k.pm_Shelf_drop k.fm_Shelf_drop (k.fn (by decide +kernel)) rfl ?_
      repeat walk_at "mE"
      refine (fn_drop k (M' := fun o2 => (it, o') :: (a, o) :: M' o2) i (fun o2 => .tail (.tail (U o1 o2))) hd' hv' hlt).te ar' (by decide) (by decide) fun r M3 I3 ⟨q1, o3, q2, q3⟩ => ?_
      subst q1 q2
      repeat walk_at "mE"
      refine ⟨_, rfl, .there (by decide +kernel) (.there (by decide +kernel) hlk), rfl, o3, _, rfl, q3, ?_⟩
      rw [← hst, if_pos hfs]
      exact ht'.wo _
    · have hfs : fileS e.val = true := by simp [fileS, hb]
      repeat walk_at "mE"
      refine i.meth k.pm_Shelf_drop k.fm_Shelf_drop (k.fn (by decide +kernel)) rfl ?_
      repeat walk_at "mE"
      refine (fn_drop k (M' := fun o2 => (it, o') :: (a, o) :: M' o2) i (fun o2 => .tail (.tail (U o1 o2))) hd' hv' hlt).te ar' (by decide) (by decide) fun r M3 I3 ⟨q1, o3, q2, q3⟩ => ?_
      subst q1 q2
      repeat walk_at "mE"
      refine ⟨_, rfl, .there (by decide +kernel) (.there (by decide +kernel) hlk), rfl, o3, _, rfl, q3, ?_⟩
      rw [← hst, if_pos hfs]
      exact ht'.wo _
  · rintro m' M1 I' ⟨hlk, rfl, o', kvs', rfl, hd', ht'⟩
    repeat walk_at "mE"
    refine .shed (.drop .head) (.of ⟨rfl, o', kvs', rfl, hd', ?_⟩)
    rw [hvs.length, drop_end fun p hp' => hp.symm.subset (by rw [ht.keys]; exact List.mem_map_of_mem (f := fun p => (p.1 : Int)) hp')] at ht'
    exact ht'
end




section
variable {c : Wc} {f : Fc} {A : Around} {m : Loc} {M I : Led} {E : Value → Shared → Prop}
theorem DicIs.ty {kvs : List (Str × Lf)} {a : Addr} (h : DicIs c I kvs a) {J : Led} (hs : ∀ p ∈ I, p ∈ J) : HasTy c J (.ref a) (.type "dict") := by
  obtain ⟨o, kvs', hm, hd, _⟩ := h
  exact HasTy.dict (hs _ hm) hd.2.choose_spec.choose_spec.1.1
/-- no Root: a new empty dict -/
theorem fn_root (k : KF c.K) {sh tr : Addr} {tb : Value} {kvs : List (Str × Lf)} (i : ShI c I tb (.ref tr) sh) (hD : DicIs c I kvs tr) (hr : lfAt kvs "Root" = none) :
    Fn c 88 (.ref 355) [.ref sh] M I (fun r M1 I1 => I1 = I ∧ ∃ a o, r = .ref a ∧ M1 = (a, o) :: M ∧ DS c a [] o) := by
  refine .mk fun f A m E ar => ?_
  refine enter (binds := [("self", .ref sh)]) (loc := [("self", .ref sh)]) rfl k.f_Shelf_root ar (by decide) (by intros; kernel_rfl) (locs (by kernel_rfl)) (by decide +kernel) (by kernel_rfl) (by kernel_rfl) (by kernel_rfl) fun q A' R ar' hR => ?_
  refine s_cons ?_
  repeat walk_at "mE"
  refine i.meth k.pm_Shelf_get k.fm_Shelf_get (k.fn (by decide +kernel)) rfl ?_
  repeat (first | walk_at "mE" | walk_at "mGet")
  refine (fn_get k i hD).te ar' (by decide) (by decide) fun r M1 I1 ⟨q1, q2, q3⟩ => ?_
  rw [hr] at q3
  obtain rfl : r = .none := q3
  subst q1 q2
  have hT : HasTy c (M1 ++ I1) .none (.type "NoneType") := HasTy.none
  repeat walk_at "mE"
  refine d_new fun a o ho _ => ?_
  repeat walk_at "mE"
  exact ⟨rfl, a, o, rfl, rfl, ho⟩

/-! true lengths -/
def putS (kvs : List (Str × Lf)) (k : Str) (l : Lf) : List (Str × Lf) := if kvs.any (fun p => p.1 == k) then kvs.map (fun p => if p.1 == k then (p.1, l) else p) else kvs ++ [(k, l)]
theorem str_eq_iff (a b : Str) : decide (a = b) = (a == b) := by rw [Bool.eq_iff_iff, decide_eq_true_iff, beq_iff_eq]
theorem KvIs.put {kvs : List (Str × Lf)} {kvs' : List (Str × Value)} (h : KvIs c I kvs kvs') (k : Str) {l : Lf} {v : Value} (hl : LfIs c I l v) : KvIs c I (putS kvs k l) (stored kvs' k v) := by
  have hany : (kvs'.any fun kv => kv.1 = k) = kvs.any fun p => p.1 == k := by
    induction h with
    | nil => rfl
    | @cons k' l' v' r r' _ _ ih => rw [List.any_cons, List.any_cons, ih, str_eq_iff]
  unfold putS stored
  rw [hany]
  split
  · rename_i hq; clear hq hany
    induction h with
    | nil => exact .nil
    | @cons k' l' v' r r' h' _ ih =>
      rw [List.map_cons, List.map_cons]
      by_cases e : k' = k
      · subst e
        simp only [beq_self_eq_true, if_true]
        exact .cons hl ih
      · simp only [e, if_false, beq_eq_false_iff_ne.mpr e]
        exact .cons h' ih
  · rename_i hq; clear hq hany
    induction h with
    | nil => exact .cons hl .nil
    | cons h' _ ih => exact .cons h' ih
def isLen (n : Nat) : Option Lf → Bool
  | some (.num k) => k == (n : Int)
  | _ => false
def lenV : Vl → Vl
  | .stm kvs b => if isLen b.length (lfAt kvs "Length") = true then .stm kvs b else .stm (putS kvs "Length" (.num b.length)) b
  | l => l
theorem subIn_int_Name {K : Frag} (k : KF K) : subIn K (.type "int") (.ref 183) = some false := by
  have h := (k.kitF (x := .type "int") (y := .ref 183) (by decide +kernel))
  unfold kitOne kitCls at h
  rw [if_neg (by decide)] at h
  dsimp only at h
  split at h
  · exact h
  · cases h
theorem line9 {u : Nat} {r : Nat} (h : u ≤ 4 + 5 * r) (hr : r ≤ 100) (d : Nat) (hd : d ≤ 100) : u + d < cLine := by show u + d < 9900; omega
theorem fn_true_length (k : KF c.K) {sh : Addr} {tb tr v : Value} {l : Vl} (i : ShI c I tb tr sh) (hv : VlIs c I l v) (hg : GoodV l) : Fn c 87 (.ref 503) [.ref sh, v] M I (fun r M1 I1 => M1 = M ∧ I ⊆ I1 ∧ VlIs c I1 (lenV l) r) := by
  refine .mk fun f A m E ar => ?_
  refine enter (binds := [("shelf", .ref sh), ("value", v)]) (loc := [("value", v), ("shelf", .ref sh)]) rfl k.f_true_length ar (by decide) (by intros; kernel_rfl) (locs (by kernel_rfl)) (by decide +kernel) (by kernel_rfl) (by kernel_rfl) (by kernel_rfl) fun q A' R ar' hR => ?_
  refine s_cons ?_
  cases l with
  | num n =>
    obtain ⟨t, rfl⟩ := hv
    have hT : HasTy c (M ++ I) (.int n t) (.type "int") := HasTy.int
    repeat walk_at "mE"
    exact ⟨rfl, fun p hp => hp, _, rfl⟩
  | dic kvs =>
    obtain ⟨a, rfl, hD⟩ := hv
    have hT : HasTy c (M ++ I) (.ref a) (.type "dict") := hD.ty fun p hp => List.mem_append_right _ hp
    repeat walk_at "mE"
    exact ⟨rfl, fun p hp => hp, _, rfl, hD⟩
  | stm kvs b =>
    obtain ⟨x, a, t, rfl, ix, hD⟩ := hv
    have hT : HasTy c (M ++ I) (.ref x) (.ref 226) := ix.stream k
    obtain ⟨hgk, hb⟩ := hg
    repeat walk_at "mE"
    refine i.meth k.pm_Shelf_get k.fm_Shelf_get (k.fn (by decide +kernel)) rfl ?_
    repeat (first | walk_at "mE" | walk_at "mGet")
    refine (fn_get k i hD).te ar' (by decide) (by decide) fun r M1 I1 ⟨q1, q2, q3⟩ => ?_
    subst q1 q2
    repeat (first | walk_at "mE" | walk_at "mGet")
    refine n_lenb (by omega) fun tl => ?_
    have go : ∀ (Q : Value → Led → Led → Prop), Q (.bool (isLen b.length (lfAt kvs "Length"))) M1 I1 → Te c (fq d_true_length [] q) A' [("value", .ref x), ("shelf", .ref sh)] M1 I1 (compareOp .Eq r (.int (b.length : Nat) tl)) Q (fun _ _ => False) := by
      intro Q hq
      generalize lfAt kvs "Length" = ol at q3 hq
      match ol, q3 with
      | none, q3 => obtain rfl : r = .none := q3; exact c_eqni hq
      | some (.num n), q3 => obtain ⟨u, rfl⟩ := q3; exact c_eq hq
      | some (.nm s), q3 =>
        obtain ⟨x', u, rfl, dx, od, hx, _, _⟩ := q3
        exact c_eqinst (List.mem_append_right _ hx) k.e_Name (subIn_int_Name k) k.q3_Name (by have := ar'.un; exact line9 this (by decide) 0 (by decide)) hq
    refine go _ ?_
    repeat walk_at "mE"
    cases hL : isLen b.length (lfAt kvs "Length")
    · repeat (first | walk_at "mE" | walk_at "mGet")
      obtain ⟨o, kvs', hm, hd, hkv⟩ := hD
      refine d_of (List.mem_append_right _ hm) hd (line_of (by rw [hkv.length]; have := hgk.2; omega)) fun a2 o2 hd2 => ?_
      repeat (first | walk_at "mE" | walk_at "mGet")
      refine n_lenb (by omega) fun tl2 => ?_
      repeat (first | walk_at "mE" | walk_at "mGet")
      refine d_set (M' := fun o => (a2, o) :: M1) (fun _ => .head) hd2 (strKind_is _ _ _ _) (line_of (by rw [hkv.length]; have := hgk.2; omega)) fun o3 hd3 => ?_
      repeat walk_at "mE"
      refine Te.shed (Shed.freeze .head) ?_
      replace ix := ix.mono (I' := (a2, o3) :: I1) fun p hp => .tail _ hp
      repeat (first | walk_at "mE" | walk_at "mGet")
      refine mk_Stream k ar' (by decide) fun x2 I2 hs2 ix2 => ?_
      repeat walk_at "mE"
      refine ⟨rfl, fun p hp => hs2 (.tail _ hp), ?_⟩
      have e : lenV (.stm kvs b) = .stm (putS kvs "Length" (.num b.length)) b := by unfold lenV; dsimp only; rw [hL, if_neg Bool.false_ne_true]
      rw [e]
      exact ⟨x2, a2, _, rfl, ix2, o3, _, hs2 (.head _), hd3, (hkv.mono fun p hp => hs2 (.tail _ hp)).put _ ⟨_, rfl⟩⟩
    · repeat walk_at "mE"
      refine ⟨rfl, fun p hp => hp, ?_⟩
      have e : lenV (.stm kvs b) = .stm kvs b := by unfold lenV; dsimp only; rw [hL, if_pos rfl]
      rw [e]
      exact ⟨x, a, t, rfl, ix, hD⟩
end




section
variable {c : Wc} {f : Fc} {A : Around} {m : Loc} {M I : Led} {E : Value → Shared → Prop}
theorem strKey {k : Str} {v : Value} (h : (PySem.strKind PW c.w).is k v = true) : ∃ t, v = .str k t := by
  cases v with
  | str n t => have e : n = k := by simpa [PySem.strKind, Value.isStrOf] using h
               exact ⟨t, by rw [e]⟩
  | _ => simp [PySem.strKind, Value.isStrOf] at h
theorem intKey {k : Int} {v : Value} (h : (intKind PW c.w).is k v = true) : ∃ t, v = .int k t := by
  cases v with
  | int n t => have e : n = k := by simpa [intKind, Value.isInt] using h
               exact ⟨t, by rw [e]⟩
  | _ => simp [intKind, Value.isInt] at h
abbrev infoK : List (Str × Lf) := [("Info", .num 4), ("Size", .num 3)]
abbrev joinK (n : Nat) : List (Str × Lf) := if n = 0 then [] else [("Info", .num 4)]
theorem fn_joined (k : KF c.K) {l : Addr} {ol : Obj} {vs : List Value} (hm : (l, ol) ∈ M ++ I) (hl : LO vs ol) (h1 : vs.length ≤ 1) (hv : ∀ v ∈ vs, ∃ a, v = .ref a ∧ DicIs c I infoK a) :
    Fn c 90 (.ref 482) [.ref l] M I (fun r M1 I1 => I1 = I ∧ ∃ a o kvs, r = .ref a ∧ M1 = (a, o) :: M ∧ DS c a kvs o ∧ KvIs c I (joinK vs.length) kvs) := by
  refine .mk fun f A m E ar => ?_
  refine enter (binds := [("trailers", .ref l)]) (loc := [("trailers", .ref l)]) rfl k.f_joined ar (by decide) (by intros; kernel_rfl) (locs (by kernel_rfl)) (by decide +kernel) (by kernel_rfl) (by kernel_rfl) (by kernel_rfl) fun q A' R ar' hR => ?_
  refine s_cons ?_
  repeat walk_at "mE"
  refine d_new fun fd ofd hfd _ => ?_
  repeat walk_at "mE"
  refine s_for ?_ (fun _ => by kernel_rfl)
  repeat walk_at "mE"
  refine p_list (l := l) (ol := ol) (by
    rcases List.mem_append.mp hm with h | h
    · exact List.mem_append_left _ (.tail _ h)
    · exact List.mem_append_right _ h) hl ar'.hd fun it o O Wl h0 => ?_
  refine ⟨it, o, _, _, _, O, _, fun i m' M' I' => Look "found" (.ref fd) m' ∧ I' = I ∧ ∃ ofd kvs, M' = (fd, ofd) :: M ∧ DS c fd kvs ofd ∧ KvIs c I (joinK i) kvs, rfl, rfl, Wl _ _, h0, ⟨.here, rfl, ofd, [], rfl, hfd, .nil⟩, ?_, ?_, ?_⟩
  · rintro i m' M' I' ⟨_, rfl, ofd, kvs, rfl, _⟩
    refine src1 ?_
    rcases List.mem_append.mp hm with h | h
    · exact List.mem_append_left _ (.tail _ h)
    · exact List.mem_append_right _ h
  · rintro i m' M' I' v o' hi hvi ⟨hlk, rfl, ofd, kvs, rfl, hd, hk⟩
    obtain rfl : i = 0 := by omega
    obtain rfl := List.eq_nil_of_length_eq_zero (hk.length)
    obtain ⟨a, rfl, oa, ka, hma, hda, hka⟩ := hv v (List.mem_of_getElem? hvi)
    cases hka with
    | @cons _ _ v4 _ r4 h4 hka =>
    cases hka with
    | @cons _ _ v3 _ r3 h3 hka =>
    cases hka
    repeat walk_at "mE"
    refine s_for ?_ (fun _ => by kernel_rfl)
    repeat walk_at "mE"
    refine p_dict (List.mem_append_right _ hma) hda ar'.hd fun it2 o2 O2 Wl2 h02 => ?_
    refine ⟨it2, o2, _, _, _, O2, _, fun i m'' M' I2 => Look "found" (.ref fd) m'' ∧ Look "trailer" (.ref a) m'' ∧ I2 = I' ∧ ∃ ofd kvs, M' = (it, o') :: (fd, ofd) :: M ∧ DS c fd kvs ofd ∧ KvIs c I' (joinK i) kvs, rfl, rfl, Wl2 _ _ trivial, h02, ⟨.there (by decide +kernel) hlk, .here, rfl, ofd, [], rfl, hd, .nil⟩, ?_, ?_, ?_⟩
    · rintro i m'' M' I2 ⟨_, _, rfl, ofd, kvs, rfl, _⟩
      exact src1 (List.mem_append_right _ hma)
    · rintro i m'' M' I2 v o3 hi2 ⟨kk, xx, hkx, hkv⟩ ⟨hlk2, hlk3, rfl, ofd, kvs, rfl, hd, hk⟩
      obtain ⟨tk, rfl⟩ := strKey hkv
      match i, hi2, hkx with
      | 0, _, hkx =>
        cases hkx
        obtain rfl := List.eq_nil_of_length_eq_zero (hk.length)
        repeat walk_at "mE"
        refine c_notinK k.o_388 ⟨rfl, 0, rfl⟩ (.cons _ _ (.cons _ _ (.cons _ _ .nil))) ?_
        have e : (!(([("Size" : Str), "Prev", "XRefStm"] : List Str).any (· == ("Info" : Str)))) = true := by decide +kernel
        rw [e]
        repeat walk_at "mE"
        refine d_item (List.mem_append_right _ hma) hda (strKind_is _ _ _ _) (v := v4) (by kernel_rfl) (by kernel_rfl) ?_
        repeat walk_at "mE"
        refine d_set (M' := fun o4 => (it2, o3) :: (it, o') :: (fd, o4) :: M) (fun _ => .tail (.tail .head)) hd (strKind_is _ _ _ _) (line_of (Nat.zero_le _)) fun o4 hd4 => ?_
        repeat walk_at "mE"
        exact ⟨_, rfl, .there (by decide +kernel) hlk2, .there (by decide +kernel) hlk3, rfl, o4, _, rfl, hd4, .cons h4 .nil⟩
      | 1, _, hkx =>
        cases hkx
        repeat walk_at "mE"
        refine c_notinK k.o_388 ⟨rfl, 0, rfl⟩ (.cons _ _ (.cons _ _ (.cons _ _ .nil))) ?_
        have e : (!(([("Size" : Str), "Prev", "XRefStm"] : List Str).any (· == ("Size" : Str)))) = false := by decide +kernel
        rw [e]
        repeat walk_at "mE"
        exact ⟨_, rfl, .there (by decide +kernel) hlk2, .there (by decide +kernel) hlk3, rfl, ofd, _, rfl, hd, hk⟩
      | i + 2, hi2, _ => exact absurd hi2 (by simp)
    · rintro m'' M' I2 ⟨hlk2, hlk3, rfl, ofd, kvs, rfl, hd, hk⟩
      repeat walk_at "mE"
      exact ⟨_, rfl, hlk2, rfl, ofd, kvs, rfl, hd, hk⟩
  · rintro m' M' I' ⟨hlk, rfl, ofd, kvs, rfl, hd, hk⟩
    repeat walk_at "mE"
    exact ⟨rfl, fd, ofd, kvs, rfl, rfl, hd, hk⟩
end




section
variable {c : Wc} {f : Fc} {A : Around} {m : Loc} {M I : Led} {E : Value → Shared → Prop}
def NoCat : Vl → Prop
  | .dic kvs => isWord "Catalog" (lfAt kvs "Type") = false
  | _ => True
theorem fn_last_catalog (k : KF c.K) {sh tb l : Addr} {tr : Value} {otb ol : Obj} {kvs : List (Int × Value)} {vs : List Value} {ps : List Pc} (i : ShI c I (.ref tb) tr sh) (hm : (tb, otb) ∈ M ++ I) (hd : DI c tb kvs otb) (hml : (l, ol) ∈ I) (hl : LO vs ol) (hp : PcsIs c I ps vs) (hz : ps.length ≤ 100)
    (hnc : ∀ p ∈ ps, NoCat p.val) : Fn c 87 (.ref 489) [.ref sh, .ref l] M I (fun r M1 I1 => M1 = M ∧ I1 = I ∧ r = .none) := by
  refine .mk fun f A m E ar => .post ?_
  refine enter (binds := [("shelf", .ref sh), ("pieces", .ref l)]) (loc := [("pieces", .ref l), ("shelf", .ref sh)]) rfl k.f_last_catalog ar (by decide) (by intros; kernel_rfl) (locs (by kernel_rfl)) (by decide +kernel) (by kernel_rfl) (by kernel_rfl) (by kernel_rfl) fun q A' R ar' hR => ?_
  have hlen := hp.length
  have hmT : ∀ (X : Led), (tb, otb) ∈ (X ++ M) ++ I := fun X => by
    rcases List.mem_append.mp hm with h | h
    · exact List.mem_append_left _ (List.mem_append_right _ h)
    · exact List.mem_append_right _ h
  refine s_cons ?_
  repeat walk_at "mE"
  refine d_new fun sd osd _ hsd => ?_
  repeat walk_at "mE"
  refine s_for ?_ (fun _ => by kernel_rfl)
  repeat walk_at "mE"
  refine n_reversed (List.mem_append_right _ hml) hl fun it o ho => ?_
  repeat walk_at "mE"
  refine p_rev (List.mem_append_right _ hml) hl ho ar'.hd fun O Wl h0 => ?_
  refine ⟨it, o, _, _, _, O, _, fun j m' M' I' => Look "seen" (.ref sd) m' ∧ Look "shelf" (.ref sh) m' ∧ I' = I ∧ ∃ osd ks, M' = (sd, osd) :: M ∧ DI c sd ks osd ∧ ks.length ≤ j, rfl, rfl, Wl _ _ trivial, h0, ⟨.here, .there (by decide +kernel) (.there (by decide +kernel) .here), rfl, osd, [], rfl, hsd, Nat.zero_le _⟩, ?_, ?_, ?_⟩
  · rintro j m' M' I' ⟨_, _, rfl, _⟩
    exact src1 (List.mem_append_right _ hml)
  · rintro j m' M' I' v o' hj hv ⟨hlk, hlk2, rfl, osd, ks, rfl, hsd, hks⟩
    obtain ⟨p, hpi, x, v1, t1, t2, t3, t4, rfl, ip, hvl⟩ := hp.at hv
    have hnp := hnc p (List.mem_of_getElem? hpi)
    have hh := hvl.handed
    repeat walk_at "mE"
    walk_at "mGet"
    repeat walk_at "mE"
    walk_at "mGet"
    refine d_in (hmT [(it, o'), (sd, osd)]) hd (intKind_is _ _ _ _) ?_
    repeat walk_at "mE"
    refine ite_in (fun hb => ?_) (fun hb => ?_)
    · repeat walk_at "mE"
      walk_at "mGet"
      repeat walk_at "mE"
      refine d_notin (List.mem_append_left _ (.tail _ (.head _))) hsd (intKind_is _ _ _ _) ?_
      repeat walk_at "mE"
      refine ite_in (fun hb2 => ?_) (fun hb2 => ?_)
      · repeat walk_at "mE"
        walk_at "mGet"
        refine d_set (M' := fun o4 => (it, o') :: (sd, o4) :: M) (fun _ => .tail .head) hsd (intKind_is _ _ _ _) (line_of (by omega)) fun o4 hd4 => ?_
        have hk4 := stored_length_le ks (p.num : Int) (.bool true)
        have fin : ∃ M', (it, o') :: (sd, o4) :: M = (it, o') :: M' ∧ Look "seen" (.ref sd) (("piece", .ref x) :: m') ∧ Look "shelf" (.ref sh) (("piece", .ref x) :: m') ∧ I' = I' ∧ ∃ osd ks, M' = (sd, osd) :: M ∧ DI c sd ks osd ∧ ks.length ≤ j + 1 :=
          ⟨_, rfl, .there (by decide +kernel) hlk, .there (by decide +kernel) hlk2, rfl, o4, _, rfl, hd4, by omega⟩
        revert hnp
        generalize p.val = l at hvl
        intro hnp
        cases l with
        | num n =>
          obtain ⟨t, rfl⟩ := hvl
          have hT : HasTy c (((it, o') :: (sd, o4) :: M) ++ I') (.int n t) (.type "int") := HasTy.int
          repeat (first | walk_at "mE" | walk_at "mGet")
          exact fin
        | dic kv =>
          obtain ⟨a, rfl, hD⟩ := hvl
          have hT : HasTy c (((it, o') :: (sd, o4) :: M) ++ I') (.ref a) (.type "dict") := hD.ty fun p hp => List.mem_append_right _ hp
          repeat (first | walk_at "mE" | walk_at "mGet")
          refine (fn_is_of_type k i hD).te ar' (by decide) (by decide) fun r M2 I2 ⟨q1, q2, q3⟩ => ?_
          rw [show isWord "Catalog" (lfAt kv "Type") = false from hnp] at q3
          subst q1 q2 q3
          repeat (first | walk_at "mE" | walk_at "mGet")
          exact fin
        | stm kv b =>
          obtain ⟨y, a, t, rfl, iy, hD⟩ := hvl
          have hT : HasTy c (((it, o') :: (sd, o4) :: M) ++ I') (.ref y) (.ref 226) := iy.stream k
          repeat (first | walk_at "mE" | walk_at "mGet")
          exact fin
      · repeat walk_at "mE"
        exact ⟨_, rfl, .there (by decide +kernel) hlk, .there (by decide +kernel) hlk2, rfl, osd, _, rfl, hsd, by omega⟩
    · repeat walk_at "mE"
      exact ⟨_, rfl, .there (by decide +kernel) hlk, .there (by decide +kernel) hlk2, rfl, osd, _, rfl, hsd, by omega⟩
  · rintro m' M' I' ⟨hlk, hlk2, rfl, osd, ks, rfl, hsd, hks⟩
    repeat walk_at "mE"
    exact .shed (.drop .head) (.of ⟨rfl, rfl, rfl⟩)

def lenT (T : Tab) : Tab := T.map fun p => (p.1, ⟨p.2.gen, lenV p.2.val⟩)
theorem TbIs.get {T : Tab} {kvs : List (Int × Value)} (h : TbIs c I T kvs) : ∀ {i : Nat} {k : Int} {x : Value}, kvs[i]? = some (k, x) → ∃ n e, T[i]? = some (n, e) ∧ k = (n : Int) ∧ EntIs c I e x := by
  induction h with
  | nil => intro i k x e; simp at e
  | @cons n e v T kvs h _ ih =>
    intro i k x hx
    cases i with
    | zero => cases hx; exact ⟨n, e, rfl, rfl, h⟩
    | succ i => simpa using ih (by simpa using hx)
theorem valueAt_of {K : Type} [DecidableEq K] {kvs : List (K × Value)} (hn : (kvs.map (·.1)).Nodup) : ∀ {i : Nat} {k : K} {x : Value}, kvs[i]? = some (k, x) → valueAt kvs k = some x := by
  induction kvs with
  | nil => intro i k x e; simp at e
  | cons p r ih =>
    intro i k x hx
    rw [List.map_cons, List.nodup_cons] at hn
    unfold valueAt
    rw [List.find?_cons]
    cases i with
    | zero => cases hx; simp
    | succ i =>
      have hx' : r[i]? = some (k, x) := by simpa using hx
      have hne : p.1 ≠ k := fun e => hn.1 (e ▸ List.mem_map_of_mem (f := (·.1)) (List.mem_of_getElem? hx'))
      simp only [hne, decide_false]
      exact ih hn.2 hx'
theorem put_fresh {α : Type} {T : List (Nat × α)} {n : Nat} {e : α} (h : n ∉ T.map (·.1)) : put T n e = T ++ [(n, e)] := by
  unfold put
  rw [if_neg]
  intro hc
  obtain ⟨p, hp, h2⟩ := List.any_eq_true.mp hc
  exact h (by rw [← (by simpa using h2 : p.1 = n)]; exact List.mem_map_of_mem (f := (·.1)) hp)
theorem fresh_take {T : Tab} (hn : (T.map (·.1)).Nodup) {i n : Nat} {e : Ent} (hi : T[i]? = some (n, e)) : n ∉ (lenT (T.take i)).map (·.1) := by
  intro h
  have h2 : (lenT (T.take i)).map (·.1) = (T.map (·.1)).take i := by unfold lenT; rw [List.map_map, List.map_take]; rfl
  rw [h2] at h
  obtain ⟨j, hj, e2⟩ := List.mem_iff_getElem.mp h
  rw [List.length_take, List.length_map] at hj
  rw [List.getElem_take] at e2
  have hil : i < T.length := by
    rcases Nat.lt_or_ge i T.length with h' | h'
    · exact h'
    · rw [List.getElem?_eq_none h'] at hi; cases hi
  have e3 : (T.map (·.1))[i]'(by rw [List.length_map]; exact hil) = n := by
    rw [List.getElem?_eq_getElem hil] at hi
    rw [List.getElem_map, Option.some.inj hi]
  have := (List.getElem_inj hn).mp (e2.trans e3.symm)
  omega
theorem fn_with_true (k : KF c.K) {sh tb tr : Addr} {otb : Obj} {T : Tab} {kvs : List (Int × Value)} (i : ShI c I (.ref tb) (.ref tr) sh) (hm : (tb, otb) ∈ I) (hd : DI c tb kvs otb) (ht : TbIs c I T kvs) (hg : ∀ p ∈ T, GoodV p.2.val) (hz : T.length ≤ 100) :
    Fn c 86 (.ref 510) [.ref sh] M I (fun r M1 I1 => M1 = M ∧ I ⊆ I1 ∧ ∃ s2 t2 o2 kvs2, r = .ref s2 ∧ ShI c I1 (.ref t2) (.ref tr) s2 ∧ (t2, o2) ∈ I1 ∧ DI c t2 kvs2 o2 ∧ TbIs c I1 (lenT T) kvs2) := by
  refine .mk fun f A m E ar => ?_
  refine enter (binds := [("shelf", .ref sh)]) (loc := [("shelf", .ref sh)]) rfl k.f_with_true_lengths ar (by decide) (by intros; kernel_rfl) (locs (by kernel_rfl)) (by decide +kernel) (by kernel_rfl) (by kernel_rfl) (by kernel_rfl) fun q A' R ar' hR => ?_
  have hkn := hd.nodup
  have hTn := nodup_of_cast (by rw [← ht.keys]; exact hkn)
  have hlen := ht.length
  refine s_cons ?_
  repeat walk_at "mE"
  refine d_new fun t2 ot2 _ hdi => ?_
  repeat walk_at "mE"
  refine s_for ?_ (fun _ => by kernel_rfl)
  repeat (first | walk_at "mE" | walk_at "mGet")
  refine p_dict (List.mem_append_right _ hm) hd ar'.hd fun it o O Wl h0 => ?_
  refine ⟨it, o, _, _, _, O, _, fun j m' M' I' => Look "table" (.ref t2) m' ∧ Look "shelf" (.ref sh) m' ∧ I ⊆ I' ∧ ∃ o2 kvs2, M' = (t2, o2) :: M ∧ DI c t2 kvs2 o2 ∧ TbIs c I' (lenT (T.take j)) kvs2, rfl, rfl, Wl _ _ trivial, h0, ⟨.here, .there (by decide +kernel) .here, fun p hp => hp, ot2, [], rfl, hdi, .nil⟩, ?_, ?_, ?_⟩
  · rintro j m' M' I' ⟨_, _, hs, _⟩
    exact src1 (List.mem_append_right _ (hs hm))
  · rintro j m' M' I' v o' hj ⟨kk, xx, hkx, hkv⟩ ⟨hlk, hlk2, hs, o2, kvs2, rfl, hd2, ht2⟩
    obtain ⟨tk, rfl⟩ := intKey hkv
    obtain ⟨n, e, hTi, rfl, a1, oa1, v1, te, rfl, hma, hoa, hvl⟩ := ht.get hkx
    have hge := hg _ (List.mem_of_getElem? hTi)
    replace i := i.mono hs
    have hlt : kvs2.length ≤ 100 := by
      rw [ht2.length, lenT, List.length_map, List.length_take]; omega
    repeat (first | walk_at "mE" | walk_at "mGet")
    refine d_item (List.mem_append_right _ (hs hm)) hd (intKind_is _ _ _ _) (valueAt_of hkn hkx) (by kernel_rfl) ?_
    refine u_pair ar'.hd (hs hma) hoa ?_
    repeat walk_at "mE"
    refine (fn_true_length k i (hvl.mono hs) hge).te ar' (by decide) (by decide) fun r M3 I3 ⟨q1, q2, q3⟩ => ?_
    subst q1
    repeat walk_at "mE"
    refine n_tuple (Nat.le_of_ble_eq_true rfl) fun a4 o4 h4 => ?_
    repeat walk_at "mE"
    refine d_set (M' := fun o1 => (it, o') :: (t2, o1) :: M) (fun _ => .tail .head) hd2 (intKind_is _ _ _ _) (line_of (by omega)) fun o5 hd5 => ?_
    repeat walk_at "mE"
    refine ⟨_, rfl, .there (by decide +kernel) (.there (by decide +kernel) (.there (by decide +kernel) hlk)), .there (by decide +kernel) (.there (by decide +kernel) (.there (by decide +kernel) hlk2)), fun p hp => .tail _ (q2 (hs hp)), o5, _, rfl, hd5, ?_⟩
    have e1 : lenT (T.take (j + 1)) = put (lenT (T.take j)) n ⟨e.gen, lenV e.val⟩ := by
      rw [put_fresh (fresh_take hTn hTi), List.take_add_one, hTi]
      unfold lenT
      rw [List.map_append]; rfl
    rw [e1]
    exact (ht2.mono fun p hp => .tail _ (q2 hp)).put _ ⟨a4, o4, r, te, rfl, .head _, h4, q3.mono fun p hp => .tail _ hp⟩
  · rintro m' M' I' ⟨hlk, hlk2, hs, o2, kvs2, rfl, hd2, ht2⟩
    replace i := i.mono hs
    rw [hlen, List.take_length] at ht2
    repeat (first | walk_at "mE" | walk_at "mGet")
    refine Te.shed (Shed.freeze .head) ?_
    refine mk_Shelf2 k ar' (by decide) fun x2 I2 hs2 i2 => ?_
    repeat walk_at "mE"
    exact ⟨rfl, fun p hp => hs2 (.tail _ (hs hp)), x2, t2, o2, kvs2, rfl, i2, hs2 (.head _), hd2, ht2.mono fun p hp => hs2 (.tail _ hp)⟩
end




section
variable {c : Wc} {f : Fc} {A : Around} {m : Loc} {M I : Led} {E : Value → Shared → Prop}
theorem e_cellM {x : Str} {pos : Pos} {v : Value} {a : Addr} {o : Obj} {Q : Value → Led → Led → Prop} (hc : f.cl.lookup x = some a) (hm : (a, o) ∈ M ++ I) (hd : o.data = .cell (some v)) (hx : f.env.kindOf x = some .cell)
    (hb : (x == ("__debug__" : Str)) = false) (h : Q v M I) : Te c f A m M I (eval (.Name x pos) f.env) Q E :=
  Te.here (v := v) (fun s R L r => nameX_C L.N hc hm hd (r s.toks) L.kd hx hb) h
noncomputable def bindLoc (kindOf : Str → Option NameKind) : List (Str × Value) → Loc → Loc
  | [], m => m
  | (n, v) :: r, m => bindLoc kindOf r (if kindOf n = some .local then (n, v) :: m else m)
theorem bindL_lk (kindOf : Str → Option NameKind) : ∀ (binds : List (Str × Value)) (m : Loc), bindL kindOf binds (lk m) = lk (bindLoc kindOf binds m)
  | [], _ => rfl
  | (n, v) :: r, m => by
    unfold bindL bindLoc
    by_cases h : kindOf n = some .local
    · rw [if_pos h, if_pos h, ← bindL_lk kindOf r]
      congr 1
      funext y
      by_cases hy : y = n
      · subst hy
        simp [lk]
      · have e : (y == n) = false := by simp [hy]
        simp [lk, List.lookup, hy, e]
    · rw [if_neg h, if_neg h, ← bindL_lk kindOf r]
theorem bindL_of {kindOf : Str → Option NameKind} {binds : List (Str × Value)} {loc : Loc} (h : bindLoc kindOf binds [] = loc) : bindL kindOf binds (fun _ => none) = lk loc := by
  subst h; exact bindL_lk kindOf binds []
def TrIs (c : Wc) (I : Led) (v : Value) : Prop := ∃ t ot tk a, v = .ref t ∧ (t, ot) ∈ I ∧ TO [.int 99 tk, .ref a] ot ∧ DicIs c I infoK a
theorem ints_99 {ns : List Int} {n : Nat} (h : ns.Perm (List.replicate n (99 : Int))) {i : Nat} {k : Int} (e : ns[i]? = some k) : k = 99 := by
  have := h.subset (List.mem_of_getElem? e)
  exact List.eq_of_mem_replicate this
theorem fn_trailers_of (k : KF c.K) {sh wk pl tl : Addr} {tb tr : Value} {opl otl : Obj} {ps : List Pc} {pvs vs : List Value} (i : ShI c I tb tr sh) (iw : Inst c I 440 [("pieces", .ref pl), ("trailers", .ref tl)] wk)
    (hmp : (pl, opl) ∈ I) (hlp : LO pvs opl) (hp : PcsIs c I ps pvs) (hnx : ∀ p ∈ ps, isCross p.val = false) (hmt : (tl, otl) ∈ I) (hlt : LO vs otl) (h1 : vs.length ≤ 1) (ht : ∀ v ∈ vs, TrIs c I v) :
    Fn c 87 (.ref 475) [.ref sh, .ref wk] M I (fun r M1 I1 => I1 = I ∧ ∃ l ol us, r = .ref l ∧ M1 = (l, ol) :: M ∧ LO us ol ∧ us.length = vs.length ∧ ∀ v ∈ us, ∃ a, v = .ref a ∧ DicIs c I infoK a) := by
  refine .mk fun f A m E ar => .post ?_
  refine enterS (binds := [("shelf", .ref sh), ("walk", .ref wk)]) (loc := [("walk", .ref wk), ("shelf", .ref sh)]) (n := "found") k.f_trailers_of ar (by decide) (by intros; kernel_rfl) (by kernel_rfl) (fun _ => by kernel_rfl) (by kernel_rfl) (bindL_of (by kernel_rfl)) (by kernel_rfl) (by kernel_rfl) (by kernel_rfl) fun L q A' R ar' hR oc hoc => ?_
  refine s_cons ?_
  refine s_assignC ?_ (by kernel_rfl)
  repeat walk_at "mE"
  walk_at "mGet"
  repeat walk_at "mE"
  refine l_of (List.mem_append_right _ hmt) hlt (line_of (by omega)) fun fl ofl hofl => ?_
  refine n_cell (M' := fun o' => (fl, ofl) :: (L, o') :: M) (by kernel_rfl) (fun _ => .tail .head) hoc (by kernel_rfl) fun oc1 hoc1 => ?_
  repeat walk_at "mE"
  refine s_for ?_ (fun _ => by kernel_rfl)
  repeat (first | walk_at "mE" | walk_at "mGet")
  refine p_list (List.mem_append_right _ hmp) hlp ar'.hd fun it o O Wl h0 => ?_
  refine ⟨it, o, _, _, _, O, _, fun j m' M' I' => Look "shelf" (.ref sh) m' ∧ I' = I ∧ M' = (fl, ofl) :: (L, oc1) :: M, rfl, rfl, Wl _ _, h0, ⟨.there (by decide +kernel) .here, rfl, rfl⟩, ?_, ?_, ?_⟩
  · rintro j m' M' I' ⟨_, rfl, rfl⟩
    exact src1 (List.mem_append_right _ hmp)
  · rintro j m' M' I' v o' hj hv ⟨hlk, rfl, rfl⟩
    obtain ⟨p, hpi, x, v1, t1, t2, t3, t4, rfl, ip, hvl⟩ := hp.at hv
    have hnp := hnx p (List.mem_of_getElem? hpi)
    have hh := hvl.handed
    repeat (first | walk_at "mE" | walk_at "mGet")
    refine (fn_is_cross k i hvl).te ar' (by decide) (by decide) fun r M2 I2 ⟨q1, q2, q3⟩ => ?_
    rw [hnp] at q3
    subst q1 q2 q3
    repeat walk_at "mE"
    exact ⟨_, rfl, .there (by decide +kernel) hlk, rfl, rfl⟩
  · rintro m' M' I' ⟨hlk, rfl, rfl⟩
    repeat walk_at "mE"
    refine e_comp (cl := []) (by kernel_rfl) (by decide +kernel) (by kernel_rfl) (by decide +kernel) (fun _ => by kernel_rfl) ?_
    refine e_cellM (by kernel_rfl) (List.mem_append_left _ (.tail _ (.head _))) hoc1 (by kernel_rfl) (by kernel_rfl) ?_
    refine p_list (List.mem_append_left _ (.head _)) hofl ar'.hd fun it1 oi1 O1 Wl1 h01 => ?_
    refine ⟨it1, oi1, _, _, _, O1, _, fun j ys M1 I1 => M1 = (fl, ofl) :: (L, oc1) :: M ∧ I1 = I' ∧ IntsAre ys (List.replicate j (99 : Int)), rfl, rfl, Wl1 _ _, h01, ⟨rfl, rfl, .nil⟩, line_of (by omega), ?_, ?_, ?_⟩
    · rintro j ys M1 I1 ⟨rfl, rfl, _⟩
      exact src1 (.head _)
    · rintro j ys M1 I1 v o' C oC D oD lm hj hv ⟨rfl, rfl, hys⟩ hno hlo Ry Rn hRy hRn
      obtain ⟨t, ot, tk, a, rfl, hmt', hot, hD⟩ := ht v (List.mem_of_getElem? hv)
      refine u_pair ar'.hd hmt' hot ?_
      refine as_name ?_
      refine cn_local (fun o' => .head) hno (by kernel_rfl) (by kernel_rfl) fun oC1 hno1 => ?_
      refine as_name ?_
      refine cn_local (fun o' => .head) hno1 (by kernel_rfl) (by kernel_rfl) fun oC2 hno2 => ⟨rfl, ?_⟩
      refine tt_nil ?_
      refine ite_t ?_
      refine ce_local (List.mem_append_left _ (.head _)) hno2 (.there (by decide +kernel) .here) (by kernel_rfl) (by kernel_rfl) (by kernel_rfl) ?_
      refine hRy.go ⟨oC2, _, rfl, ⟨_, hno2⟩, rfl, rfl, ?_⟩
      have e : List.replicate (j + 1) (99 : Int) = List.replicate j 99 ++ [99] := List.replicate_succ'
      rw [e]
      exact hys.append (.cons _ _ .nil)
    · rintro ys M1 I1 D oD ⟨rfl, rfl, hys⟩ hlo
      repeat walk_at "mE"
      refine k_sortedI (List.mem_append_left _ (.head _)) hlo hys (by have := hys.length; rw [List.length_replicate] at this; omega) fun srt os vs' ns' hos hvs' hperm hw => ?_
      repeat walk_at "mE"
      have hn' : ns'.length = vs.length := by rw [hperm.length_eq, List.length_replicate]
      refine e_comp2 (cl := [("found", L)]) (by kernel_rfl) (by decide +kernel) (by kernel_rfl) (by decide +kernel) (fun _ => by kernel_rfl) (fun _ _ => by kernel_rfl) ?_
      repeat walk_at "mE"
      refine p_list (List.mem_append_left _ (.head _)) hos ar'.hd fun it2 oi2 O2 Wl2 h02 => ?_
      refine ⟨it2, oi2, _, _, _, O2, _, fun j ys M1 I2 => M1 = (srt, os) :: (D, oD) :: (fl, ofl) :: (L, oc1) :: M ∧ I2 = I1 ∧ ys.length = j ∧ ∀ v ∈ ys, ∃ a, v = .ref a ∧ DicIs c I1 infoK a, rfl, rfl, Wl2 _ _, h02, ⟨rfl, rfl, rfl, fun v hv => by cases hv⟩, ?_, ?_, ?_⟩
      · rintro j ys M1 I2 ⟨rfl, rfl, _⟩
        exact src1 (.head _)
      · rintro j ys M1 I2 v o' C oC D2 oD2 lm hj hv ⟨rfl, rfl, hyl, hys2⟩ hno hlo2 Ri hRi
        obtain ⟨n', tp, hn2, rfl⟩ := ints_at' hvs' hv
        obtain rfl := ints_99 hperm hn2
        have hjl : j < vs.length := by rw [← hn', ← hvs'.length]; exact hj
        obtain rfl : j = 0 := by omega
        have hv1 : vs.length = 1 := by omega
        refine as_name ?_
        refine cn_local (fun o' => .head) hno (by kernel_rfl) (by kernel_rfl) fun oC1 hno1 => ⟨rfl, ?_⟩
        refine ce_cell (by kernel_rfl) (List.mem_append_left _ (.tail _ (.tail _ (.tail _ (.tail _ (.tail _ (.tail _ (.head _)))))))) hoc1 (by kernel_rfl) (by kernel_rfl) (by kernel_rfl) ?_
        refine p_list (List.mem_append_left _ (.tail _ (.tail _ (.tail _ (.tail _ (.tail _ (.head _))))))) hofl ar'.hd fun it3 oi3 O3 Wl3 h03 => ?_
        refine hRi.go ⟨it3, oi3, oC1, oD2, _, _, _, O3, _, fun q zs M3 I3 => M3 = (it2, o') :: (srt, os) :: (D, oD) :: (fl, ofl) :: (L, oc1) :: M ∧ I3 = I2 ∧ zs.length = q ∧ q ≤ vs.length ∧ ∀ v ∈ zs, ∃ a, v = .ref a ∧ DicIs c I2 infoK a, Look "place" (.int 99 tp), rfl, rfl, ⟨_, hno1, .here⟩, hlo2, Wl3 _ _, h03, ⟨rfl, rfl, hyl, Nat.zero_le _, hys2⟩, ?_, ?_, ?_⟩
        · rintro q zs M3 I3 ⟨rfl, rfl, hz, hq, _⟩
          exact ⟨by omega, src1 (.tail _ (.tail _ (.tail _ (.head _))))⟩
        · rintro q zs M3 I3 v o3 oC3 oD3 lm3 hq hv3 ⟨rfl, rfl, hz, _, hzs⟩ hno3 hplace hlo3 Ry Rn hRy hRn
          obtain ⟨t, ot, tk, a, rfl, hmt', hot, hD⟩ := ht v (List.mem_of_getElem? hv3)
          refine u_pair ar'.hd hmt' hot ?_
          refine as_name ?_
          refine cn_local (fun o' => .tail .head) hno3 (by kernel_rfl) (by kernel_rfl) fun oC4 hno4 => ?_
          refine as_name ?_
          refine cn_local (fun o' => .tail .head) hno4 (by kernel_rfl) (by kernel_rfl) fun oC5 hno5 => ⟨rfl, ?_⟩
          refine tt_one ?_
          repeat walk_at "mE"
          refine ce_local (List.mem_append_left _ (.tail _ (.head _))) hno5 (.there (by decide +kernel) .here) (by kernel_rfl) (by kernel_rfl) (by kernel_rfl) ?_
          repeat walk_at "mE"
          refine ce_local (List.mem_append_left _ (.tail _ (.head _))) hno5 (.there (by decide +kernel) (.there (by decide +kernel) hplace)) (by kernel_rfl) (by kernel_rfl) (by kernel_rfl) ?_
          refine c_eq ?_
          repeat walk_at "mE"
          refine ite_t ?_
          refine ce_local (List.mem_append_left _ (.tail _ (.head _))) hno5 .here (by kernel_rfl) (by kernel_rfl) (by kernel_rfl) ?_
          refine hRy.go ⟨oC5, _, rfl, ⟨_, hno5, .there (by decide +kernel) (.there (by decide +kernel) hplace)⟩, rfl, rfl, by rw [List.length_append, hz]; rfl, hq, fun v hv => ?_⟩
          rcases List.mem_append.mp hv with hv | hv
          · exact hzs v hv
          · obtain rfl := List.mem_singleton.mp hv
            exact ⟨_, rfl, hD⟩
        · rintro zs M3 I3 ⟨rfl, rfl, hz, _, hzs⟩
          exact ⟨_, rfl, rfl, rfl, by omega, hzs⟩
      · rintro ys M1 I2 D2 oD2 ⟨rfl, rfl, hyl, hys2⟩ hlo2
        repeat walk_at "mE"
        refine .shed (.drop (.tail .head)) (.shed (.drop (.tail .head)) (.shed (.drop (.tail .head)) (.shed (.drop (.tail .head)) (.of ⟨rfl, _, _, _, rfl, rfl, hlo2, by have := hvs'.length; omega, hys2⟩))))
end



/-! an exception on its way -/
abbrev frs (l : List Env) : List Addr := l.filterMap (·.frame)
structure Fly0 (c : Wc) (f : Fc) (g bs : Heap) (a0 : Value) (m : Loc) (M I : Led) (e : Addr) (cls : Value) (h : Heap) : Prop where
  B : Bel c f g
  X : c.K.In g
  T : TopRead c.p c.loose c.mg c.mb g
  ap : apart M I
  kd : f.cs.kind = .function
  above : g.objs.size ≤ f.L
  ns : h.Ns f.L (lk m)
  keep : ∀ b o, g.get? b = some o → b ∉ frs f.outer → bs.get? b = some o
  turn : ∀ b o, g.get? b = some o → b ∈ frs f.outer → ∃ sl, h.get? b = some { o with slots := sl }
  news : ∀ p ∈ M ++ I, bs.get? p.1 = some p.2 ∧ p.1 ≠ f.L ∧ g.get? p.1 = none
  fly : Heap.FlyingW bs (f.env :: f.outer) e cls a0 h
def Fly (c : Wc) (f : Fc) (m : Loc) (M I : Led) (e : Addr) (cls : Value) (h : Heap) : Prop := ∃ g B a0, Fly0 c f g B a0 m M I e cls h

section
variable {c : Wc} {f : Fc} {A : Around} {m : Loc} {M I : Led} {e : Addr} {cls a0 : Value} {g B : Heap}
theorem Fly0.slots {h h' : Heap} (F : Fly0 c f g B a0 m M I e cls h) (k : h.UpToSlots h') (w : Heap.FlyingW B (f.env :: f.outer) e cls a0 h') : Fly0 c f g B a0 m M I e cls h' :=
  ⟨F.B, F.X, F.T, F.ap, F.kd, F.above, k.ns F.ns, F.keep, fun b o q hb => by
    obtain ⟨sl, hs⟩ := F.turn b o q hb
    obtain ⟨o', es, n, h1, h2⟩ := F.B.dicts b hb
    rw [q] at h1; cases h1
    obtain ⟨sl', hs'⟩ := k b _ hs (fun vs z => by rw [h2] at z; cases z)
    exact ⟨sl', hs'⟩, F.news, w⟩
/-- the frame goes on -/
theorem Fly0.back {h : Heap} (F : Fly0 c f g B a0 m M I e cls h) : Live c f m M I h := by
  have hfl := F.fly.1
  obtain ⟨T₁, S₁⟩ := kts_turn_at (h := h) (fs := frs f.outer) (g := g)
    (fun b hb => let ⟨o, _, _, ho, _⟩ := F.B.dicts b hb; ⟨o, ho⟩)
    (fun b o q nm => hfl b o (F.keep b o q nm))
    F.turn
  have BB : Below f.A₀ f.base f.outer (ktsHeap h (frs f.outer) g) := ⟨F.B.below.stack, fun b o q => T₁.other b o (F.B.below.stays b o q) (fun hm => by rw [(F.B.below.frames.mem hm).1] at q; cases q),
    F.B.below.frames.of_keeps fun b o q _ => let ⟨sl', hs'⟩ := T₁.up q; ⟨_, hs', rfl⟩⟩
  refine ⟨_, ⟨BB, F.B.dicts.turn T₁, F.B.turn.trans T₁, F.B.XB, F.B.TB⟩, ⟨F.ns, S₁, by rw [T₁.size]; exact F.above⟩, F.B.XB.keeps BB.stays, fun p hp => ?_, F.B.TB.keeps BB.stays, F.ap, F.kd⟩
  obtain ⟨n1, n2, n3⟩ := F.news p hp
  exact ⟨hfl _ _ n1, n2, T₁.none_ _ n3⟩
/-- an exception leaves the callee's frame -/
theorem fly_leave {d : DefI} {fa : Addr} {cd : Value} {cl : List (Str × Addr)} {L' : Addr} {g₀ gc : Heap} {s : Shared} {s' : Shared} {m' : Loc} {M' I' : Led} {oe : Obj} {vs : Array Value} {E : Value → Shared → Prop} {Q : Unit → Shared → Prop}
    (Lv : Live0 c f g₀ m M I s.heap) (FG : Fr g₀ f.L gc (lk m)) (L3 : Live c (fcOf f A d fa cd cl L' gc) m' ((e, oe) :: M') I' s'.heap) (hd : oe.data = .fields vs) (h1 : vs[1]? = some .none) (h0 : vs[0]? = some a0)
    (hQ : ∀ h', Fly c f m M' I' e oe.cls h' → Q () { s' with heap := h' }) :
    wpAny (model PW c.w) (A.deeper (fcOf f A d fa cd cl L' gc).env) (leaving (fcOf f A d fa cd cl L' gc).env (.ref e)) Q E s' := by
  obtain ⟨g', L3⟩ := L3
  obtain ⟨h₀', T0, B0, F0, N0⟩ := turn_back (env := f.env) Lv.B.below FG rfl L3.B.turn L3.F L3.N
  have K' := L3.B.below
  have hself : g'.get? L' = none := kts_self L3.F
  have hnL' : h₀'.get? L' = none := by
    cases q : h₀'.get? L' with
    | none => rfl
    | some o =>
      have q0 : ∃ o, g₀.get? L' = some o := by
        cases q2 : g₀.get? L' with
        | none => rw [T0.none_ _ q2] at q; cases q
        | some o => exact ⟨o, rfl⟩
      obtain ⟨o2, q0⟩ := q0
      obtain ⟨sl, hs⟩ := L3.B.turn.up (FG.keep _ _ q0)
      rw [hself] at hs; cases hs
  -- the frames, the callee's own among them
  have hbn : f.base.get? L' = none := by
    cases q : f.base.get? L' with
    | none => rfl
    | some o => have := K'.stays L' o q; rw [hself] at this; cases this
  have hFF : s'.heap.FunFrames f.base ((fcOf f A d fa cd cl L' gc).env :: f.env :: f.outer) :=
    .cons (by show d.scope.kind ≠ .module; have := L3.kd; rw [show d.scope.kind = .function from this]; decide) rfl L3.F.ns hbn (K'.frames.of_keeps fun b o q _ => ⟨o, L3.F.keep b o q, rfl⟩)
  let as := e :: frs ((fcOf f A d fa cd cl L' gc).env :: f.env :: f.outer)
  have hin : ∀ env ∈ ((fcOf f A d fa cd cl L' gc).env :: f.env :: f.outer), ∀ b, env.frame = some b → b ∈ as := fun env he b hb => List.mem_cons_of_mem _ (List.mem_filterMap.mpr ⟨env, he, hb⟩)
  have he : s'.heap.get? e = some oe := L3.gM (.head _)
  refine wpAny_leaving_firstW (base := hideAll s'.heap as) (a0 := a0) (Around.frames_deeper K'.stack) (funFrames_hide hFF hin) rfl he (fun b o q => of_hideAll _ q) (hideAll_none _ (List.mem_cons_self ..)) hd h1 h0 fun h' hL => ?_
  obtain ⟨k1, ⟨_, _, k2⟩, k3, k4⟩ := hL
  have k4 : s'.heap.UpToSlots h' := k4
  obtain ⟨hnd, hap⟩ := L3.ap
  rw [List.map_cons, List.nodup_cons] at hnd
  have nofr : ∀ b, h₀'.get? b = none → b ≠ L' → b ≠ f.L → b ≠ e → b ∉ as := fun b q1 q2 q3 q4 hm => by
    rcases List.mem_cons.mp hm with z | z
    · exact q4 z
    · rcases fr_mem (L := L') rfl z with z | z
      · exact q2 z
      · rcases fr_mem (L := f.L) rfl z with z | z
        · exact q3 z
        · obtain ⟨_, o, ho, _⟩ := B0.frames.mem z
          rw [q1] at ho; cases ho
  refine hQ h' ⟨h₀', hideAll s'.heap as, a0, ⟨⟨B0, Lv.B.dicts.turn T0, Lv.B.turn.trans T0, Lv.B.XB, Lv.B.TB⟩, Lv.B.XB.keeps B0.stays, Lv.B.TB.keeps B0.stays, ⟨hnd.2, fun p hp => hap p (List.mem_cons_of_mem _ hp)⟩, Lv.kd, F0.above, k4.ns F0.ns, fun b o q nm => ?_, fun b o q hb => ?_, fun p hp => ?_, ?_⟩⟩
  · refine hideAll_get _ (F0.keep b o q) fun hm => ?_
    rcases List.mem_cons.mp hm with z | z
    · have := (N0 (e, oe) (List.mem_append_left _ (.head _))).2.2
      rw [← z, q] at this; cases this
    · rcases fr_mem (L := L') rfl z with z | z
      · rw [z, hnL'] at q; cases q
      · rcases fr_mem (L := f.L) rfl z with z | z
        · rw [z, kts_self F0] at q; cases q
        · exact nm z
  · obtain ⟨_, o', ho', hnf⟩ := B0.frames.mem hb
    rw [q] at ho'; cases ho'
    exact k4 b o (F0.keep b o q) hnf
  · have hp' : p ∈ ((e, oe) :: M') ++ I' := by
      rcases List.mem_append.mp hp with hp | hp
      · exact List.mem_append_left _ (List.mem_cons_of_mem _ hp)
      · exact List.mem_append_right _ hp
    obtain ⟨n1, n2, n3⟩ := N0 p hp'
    refine ⟨hideAll_get _ n1 (nofr _ n3 (L3.N p hp').2.1 n2 fun q => ?_), n2, n3⟩
    rcases List.mem_append.mp hp with hp | hp
    · exact hnd.1 (q ▸ List.mem_map_of_mem (f := (·.1)) hp)
    · exact hap (e, oe) (.head _) p hp q.symm
  · exact ⟨k1, hideAll_none _ (List.mem_cons_self ..), k2, k3⟩

/-- what a def that raises promises -/
structure Fx (c : Wc) (r : Nat) (g : Value) (args : List Value) (M I : Led) (cls : Value) : Prop where
  run : ∀ (f : Fc) (A : Around) (m : Loc), Ar f A r → ∀ s : Shared, Live c f m M I s.heap → codeAny (model PW c.w) A (.call g ⟨args, []⟩) (fun r s' => ∃ e h' tk M' I', r = .error (.ref e) ∧ s' = { s with heap := h', toks := tk } ∧ Fly c f m M' I' e cls h' ∧ M' = M ∧ I' = I) s
/-- where a body raises -/
def RaiseAt (c : Wc) (f : Fc) (s : Shared) (M I : Led) (cls v : Value) (s' : Shared) : Prop :=
  ∃ e oe vs a0 h tk m, v = .ref e ∧ s' = { s with heap := h, toks := tk } ∧ Live c f m ((e, oe) :: M) I h ∧ oe.cls = cls ∧ oe.data = .fields vs ∧ vs[1]? = some .none ∧ vs[0]? = some a0
theorem enterX {fa : Addr} {d : DefI} {cd : Value} {r : Nat} {args : List Value} {binds : List (Str × Value)} {loc : Loc} {cls : Value} (hrev : binds.reverse = loc)
    (ho : fnView c.K fa = some (d, cd)) (hr : r < 100)
    (hbind : ∀ nm kV doc pm an ct, bindArgs (fnX nm d.qual d.params d.body d.scope [] d.dV kV doc pm an cd ct) ⟨args, []⟩ = pure binds)
    (hloc : ∀ y ∈ binds, d.scope.names.lookup y.1 = some .local)
    (hcell : ∀ x ∈ d.scope.names, x.2 ≠ .cell) (hco : d.scope.isCoroutine = false) (hgen : d.scope.isGenerator = false) (hk : d.scope.kind = .function)
    (h : ∀ (q : Fq) (A' : Around) (s : Shared), Ar (fq d [] q) A' (r + 1) → Live c (fq d [] q) loc M I s.heap → wpAny (model PW c.w) A' (execs d.body (fq d [] q).env) (fun _ _ => False) (RaiseAt c (fq d [] q) s M I cls) s) :
    Fx c r (.ref fa) args M I cls := by
  subst hrev
  refine .mk fun f A m a s ⟨g₀, Lv⟩ => ?_
  obtain ⟨oc, od, osl, name, kV, doc, pm, an, ct, hlk, hcd⟩ := fnView_spec ho
  refine callT_plain (env := f.env) (P := fun _ _ _ => False) Lv.B.below Lv.B.dicts Lv.F Lv.N Lv.T.nolimit a.fr rfl Lv.kd (Lv.Xh _ _ hlk) rfl (codeRec_of Lv.Xh hcd) (by have := a.dp; show A.depth < 1000; omega) (BindsTo.of_eq (hbind _ _ _ _ _ _)) hloc
    (fun _ _ _ _ _ _ _ _ q => q.elim) (fun g L' h₁ FG F' N' BG DG st lt => ?_) hcell hco hgen hk
  have L2 : Live0 c (fcOf f A d fa cd [] L' g) g binds.reverse M I h₁ := ⟨Lv.bel BG DG, F', Lv.X.keeps st, N', Lv.T.keeps st, Lv.ap, hk⟩
  refine wpAny_mono (h ⟨f, A, fa, cd, L', g⟩ _ { s with heap := h₁, toks := s.toks + binds.length } (a.deeper (d := d) (fa := fa) (cd := cd) (cl := []) (L := L') (g := g) hr) ⟨g, L2⟩) (fun _ _ q => q.elim) fun v s' q => ?_
  obtain ⟨e, oe, vs, a0, h2, tk, m2, rfl, rfl, L3, rfl, hd, v1, v0⟩ := q
  exact fly_leave (s := s) (s' := { s with heap := h2, toks := tk }) Lv FG L3 hd v1 v0 fun h' F => ⟨e, h', tk, M, I, rfl, rfl, F, rfl, rfl⟩
end



/-! the clause that takes it -/
section
variable {c : Wc} {f : Fc} {A : Around} {m : Loc} {M I : Led} {E : Value → Shared → Prop}
theorem handle_C {x : Str} {np hpos : Pos} {b₀ : Stmt} {suite : List Stmt} {rest : List ExceptHandler} {e : Addr} {cls cv : Value} {s : Shared} {Q : Flow → Loc → Led → Led → Prop} (hA : A.frames = some (f.env :: f.outer))
    (F : Fly c f m M I e cls s.heap) (ex : nsIn c.K mainGlobals x = some (some cv)) (hm : exmOne c.K cls cv = some true) (hx : f.env.kindOf x = some .globalImplicit) (hd : (x == ("__debug__" : Str)) = false)
    (h : ∀ A', Ts c f A' m M I (execs (b₀ :: suite) f.env) Q (fun _ _ => False)) :
    wpAny (model PW c.w) A (noteFrame (.ref e) f.env)
      (fun _ s₂ => wpAny (model PW c.w) A (setFlight (.ref e) none) (fun _ s₃ =>
        wpAny (model PW c.w) A (handleBy (.ref e) f.env (.ExceptHandler (some (.Name x np)) none (b₀ :: suite) hpos :: rest))
          (fun fl s' => ∃ h' tk m' M' I', s' = { s with heap := h', toks := tk } ∧ Live c f m' M' I' h' ∧ Q fl m' M' I') E s₃) E s₂) E s := by
  obtain ⟨g, B, a0, F⟩ := F
  refine wpAny_looks_onW hA rfl F.fly fun h₄ hheld₄ hsm₄ => ?_
  refine wpAny_landsW hheld₄ fun h₅ hfl₅ hsm₅ => ?_
  have F₅ := F.slots (hsm₄.trans hsm₅) hfl₅
  obtain ⟨g₅, L₅⟩ := F₅.back
  obtain ⟨ob, hob, hobc⟩ := hfl₅.there
  refine wpAny_handleBy_cons (codeAny_handlers_test ?_) (by intro q; cases q)
  refine Name_function_global L₅.kd hx (loadGlobal_global (env := f.env) (L₅.T.g.keeps L₅.F.keep) (mg_of L₅.X L₅.T.g ex) ?_) hd
  have LT : Looks (model PW c.w) h₅ (typeOf (.ref e)) cls := by rw [← hobc]; exact (Looks.ld hob).andThen .now
  refine (exm_one (M := model PW c.w) L₅.Xh LT hm).at ?_
  refine codeAny_handlers_suite ?_
  refine lands_againW hfl₅ fun h₆ hfl₆ hsm₆ => ?_
  have L₆ := (F₅.slots hsm₆ hfl₆).back
  refine wpAny_mono ((h _).run { s with heap := h₆ } L₆) (fun fl s' q => ?_) fun _ _ q => q.elim
  exact q
/-- a try whose body raises what its clause takes -/
theorem s_try {x : Str} {np hpos pos : Pos} {body : List Stmt} {b₀ : Stmt} {suite : List Stmt} {cls cv : Value} {Q : Flow → Loc → Led → Led → Prop} (hA : A.frames = some (f.env :: f.outer))
    (ex : nsIn c.K mainGlobals x = some (some cv)) (hm : exmOne c.K cls cv = some true) (hx : f.env.kindOf x = some .globalImplicit) (hd : (x == ("__debug__" : Str)) = false) {m2 : Loc} {M2 I2 : Led}
    (hb : ∀ s : Shared, Live c f m M I s.heap → wpAny (model PW c.w) A (execs body f.env) (fun _ _ => False) (fun v s' => ∃ e h tk, v = .ref e ∧ s' = { s with heap := h, toks := tk } ∧ Fly c f m2 M2 I2 e cls h) s)
    (h : ∀ A', Ts c f A' m2 M2 I2 (execs (b₀ :: suite) f.env) Q (fun _ _ => False)) :
    Ts c f A m M I (exec (.Try body [.ExceptHandler (some (.Name x np)) none (b₀ :: suite) hpos] [] [] pos) f.env) Q E := by
  refine .mk fun s L => wpAny_Try_except (wpAny_mono (hb s L) (fun _ _ q => q.elim) fun v s' q => ?_)
  obtain ⟨e, h', tk, rfl, rfl, F⟩ := q
  exact handle_C (s := { s with heap := h', toks := tk }) hA F ex hm hx hd h
/-- a try whose body raises nothing -/
theorem s_tryN {hs : List ExceptHandler} {h₀ : ExceptHandler} {pos : Pos} {body : List Stmt} {Q : Flow → Loc → Led → Led → Prop}
    (h : Ts c f A m M I (execs body f.env) (fun fl m M I => match fl with | .next => Q .next m M I | fl => Q fl m M I) (fun _ _ => False)) : Ts c f A m M I (exec (.Try body (h₀ :: hs) [] [] pos) f.env) Q E := by
  refine .mk fun s L => wpAny_Try_except (wpAny_mono (h.run s L) (fun fl s' q => ?_) fun v s' q => q.elim)
  obtain ⟨h', tk, m', M', I', rfl, L', q⟩ := q
  cases fl with
  | next => exact wpAny_execs_nil ⟨h', tk, m', M', I', rfl, L', q⟩
  | _ => exact ⟨h', tk, m', M', I', rfl, L', q⟩
end



/-! an exception of an own class with an own __init__ -/
abbrev bmP : List Value := [.ref 46, .type "Exception", .type "BaseException", .type "object"]
/-- the particulars of an own class of exceptions -/
structure XQ where
  nm : Str
  qn : Str
  N : Addr
  bs : List Value
  sn : List Str
  sub : List Value
  ab : Bool
  col : Option Bool
  dd : Option Addr
  k0 : Option Value
  k1 : Option Value
  k2 : Option Value
  k3 : Option Value
  k5 : Option Value
def xObj (C : Addr) (x : XQ) : Obj := excClassObj x.nm x.qn C x.N x.bs bmP true x.sn x.sub x.ab x.col x.dd x.k0 x.k1 x.k2 x.k3 x.k5 "Exception.__new__"
abbrev bmE : List Value := [.type "Exception", .type "BaseException", .type "object"]
section
variable {prog : Program} {w : World} {A : Around} {E : Value → Shared → Prop} {R : Result → Shared → Prop} {h : Heap} {g : Array GenState} {d : Drawn} {t : Nat} {os : OsState}
variable {nm q : Str} {C N : Addr} {bs : List Value} {sn : List Str} {sub : List Value} {ab : Bool} {col : Option Bool} {dd : Option Addr} {k0 k1 k2 k3 k5 : Option Value}
abbrev XC (h : Heap) (nm q : Str) (C N : Addr) (bs : List Value) (sn : List Str) (sub : List Value) (ab : Bool) (col : Option Bool) (dd : Option Addr) (k0 k1 k2 k3 k5 : Option Value) : Prop :=
  h.get? C = some (excClassObj nm q C N bs bmP true sn sub ab col dd k0 k1 k2 k3 k5 "Exception.__new__")
theorem hasX (C : Addr) {X : String} {b : Bool} (e : bmP.contains (.type X) = b) : (Value.ref C :: bmP).contains (.type X) = b := by
  rw [List.contains_cons, e]; rfl
theorem x_check_new {M : Model} {rest : List Value} {Q : Unit → Shared → Prop} (hC : XC h nm q C N bs sn sub ab col dd k0 k1 k2 k3 k5)
    (hq : Q () ⟨h, g, d, t, os⟩) : wpAny M A (checkBuiltinCall "Exception.__new__" ⟨.ref C :: rest, []⟩) Q E ⟨h, g, d, t, os⟩ := by
  have F := PySem.F.excBase_Exception
  have hcont : (Value.ref C :: bmP).contains (.type "Exception") = true := hasX C (by decide +kernel)
  have hstar := F.noStar
  simp only [checkBuiltinCall, F.newKind, F.newSplit, F.newRow]
  repeat (first | refine wpAny_loadPart_at hC ?_ | (refine wpAny_isSubtype_exc hC ?_; rw [hcont]) | refine wpAny_staticBase_exc hC ?_ | refine wpAny_madeBy_exc hC ?_ | simp only [bne_self_eq_false, Bool.false_eq_true, if_false] | wp_step)
  exact hq
theorem x_new {rest : List Value} (hC : XC h nm q C N bs sn sub ab col dd k0 k1 k2 k3 k5)
    (hq : R (.ok (.ret (.ref (h.objs.size + 1)))) ⟨(h.push { cls := .type "tuple", data := .seq rest.toArray }).push
      { cls := .ref C, data := .fields #[.ref h.objs.size, .none, .none, .none, .bool false, .none] }, g, d, t, os⟩) (hrest : rest.length ≤ sizeLine := by size_fits) :
    codeAny (model prog w) A (.builtin "Exception.__new__" ⟨.ref C :: rest, []⟩) R ⟨h, g, d, t, os⟩ := by
  have F := PySem.F.excBase_Exception
  have hends := F.ends
  have hcB : (Value.ref C :: bmP).contains (.type "Exception") = true := hasX C (by decide +kernel)
  have hcA : (Value.ref C :: bmP).contains (.type "AttributeError") = false := hasX C (by decide +kernel)
  have hcN : (Value.ref C :: bmP).contains (.type "NameError") = false := hasX C (by decide +kernel)
  refine codeAny_builtinAt F.entry ?_
  unfold Builtin.«BaseException.__new__»
  refine PySem.wpAt_bind ?_
  show PySem.wpAt _ _ _ (stack >>= _) _ _ _
  refine PySem.wpAt_bind (PySem.wpAt_stack fun p below => PySem.wpAt_of_wpAny ?_)
  wp_walk
  refine PySem.wpAt_of_wpAny ?_
  rw [F.owner]
  repeat (first | with_reducible refine wpAny_madeHere_exc F.canon hC ?_ | with_reducible refine wpAny_loadPart_at hC ?_ | (with_reducible refine wpAny_isSubtype_exc hC ?_; first | rw [hcB] | rw [hcA] | rw [hcN]) | wp_step)
  show R _ _
  rw [Heap.size_push]
  exact hq
abbrev excObj (C t : Addr) : Obj := { cls := .ref C, data := .fields #[.ref t, .none, .none, .none, .bool false, .none] }
theorem x_make {rest : List Value} {fI : Addr} (hC : XC h nm q C N bs sn sub ab col dd k0 k1 k2 k3 k5) (hi : Looks (model prog w) h (typeLookup (.ref C) "__init__") (some (.ref fI)))
    (hb : ∀ self, Looks (model prog w) h (bindSpecial (.ref fI) self) (.ref fI, [self]))
    (hq : codeAny (model prog w) (A.under (.builtin "type.__call__" ⟨.ref C :: rest, []⟩)) (.call (.ref fI) ⟨.ref (h.objs.size + 1) :: rest, []⟩) (InitBack (h.objs.size + 1) R) ⟨(h.push { cls := .type "tuple", data := .seq rest.toArray }).push (excObj C h.objs.size), g, d, t, os⟩) (hrest : rest.length ≤ sizeLine := by size_fits) :
    codeAny (model prog w) A (.call (.ref C) ⟨rest, []⟩) R ⟨h, g, d, t, os⟩ := by
  have F := PySem.F.excBase_Exception
  have f1 := tc_lookup
  have f2 := tc_bind (.ref C)
  have hT : (⟨h, g, d, t, os⟩ : Shared).TypeIs (.ref C) "type" := ⟨_, hC, rfl⟩
  refine codeAny_of_tree ?_
  show wpAny _ _ (callAny (.ref C) _) _ _ _
  repeat (any_goals (first | assumption | with_reducible refine wpAny_loadPart_at hC ?_ | wp_step))
  refine ⟨rfl, ?_⟩
  refine codeAny_call_builtin_at (Code.quiet_builtin _ (by decide +kernel)) entry_typeCall (wpAny_check_type_call_sub hC ?_)
  repeat (first | with_reducible refine wpAny_loadPart_at hC ?_ | with_reducible refine wpAny_madeBy_exc hC ?_ | wp_step)
  refine codeAny_call_builtin_code (Code.quiet_builtin _ F.quiet) (x_check_new hC ?_)
  refine x_new hC ?_ hrest
  show wpAny _ _ _ _ _ _
  have k : ∀ b o, h.get? b = some o → ((h.push { cls := .type "tuple", data := .seq rest.toArray }).push { cls := .ref C, data := .fields #[.ref h.objs.size, .none, .none, .none, .bool false, .none] }).get? b = some o := fun b o e => Heap.get?_push_of_some _ (Heap.get?_push_of_some _ e)
  have hC₁ := Heap.get?_push_of_some { cls := .ref C, data := .fields #[.ref h.objs.size, .none, .none, .none, .bool false, .none] } (Heap.get?_push_of_some { cls := .type "tuple", data := .seq rest.toArray } hC)
  have hget : ((h.push { cls := .type "tuple", data := .seq rest.toArray }).push { cls := .ref C, data := .fields #[.ref h.objs.size, .none, .none, .none, .bool false, .none] }).get? (h.objs.size + 1) = some { cls := .ref C, data := .fields #[.ref h.objs.size, .none, .none, .none, .bool false, .none] } := by heap_get
  have hcC : (Value.ref C :: bmP).contains (.ref C) = true := by simp
  have i1 := hi.keeps k
  have b1 := (hb (.ref (h.objs.size + 1))).keeps k
  unfold isInstance
  repeat (first | with_reducible refine wpAny_loadPart_at hget ?_ | (with_reducible refine wpAny_isSubtype_exc hC₁ ?_; rw [hcC]) | wp_step)
  refine wpAny_isSubtype_exc hC₁ ?_
  rw [hcC]
  repeat (first | with_reducible refine wpAny_loadPart_at hget ?_ | wp_step)
  show wpAny _ _ (typeLookup (.ref C) _) _ _ _
  refine i1.at ?_
  refine wpAny_holding (wpAny_bind (b1.at ?_))
  refine wpAny_bind (wpAny_call ?_)
  refine codeAny_mono hq fun r s' z => ?_
  rcases r with e | (v | _ | _ | _) <;> first | exact z | exact z.elim | skip
  obtain ⟨rfl, z⟩ := z
  repeat (first | exact z | wp_step)
end

section
open PySem.Builtin PySem.Builtin.ObjectAttr


/-- what the text's top leaves behind of its exceptions -/
structure XF (K : Frag) : Prop where
  cls : ∃ x : XQ, K.lookup 59 = some (xObj 59 x)
  init : findIn K (.ref 59) "__init__" = some (some (.ref 36))
  ifn : isFn K (.ref 36) = true
  set : findIn K (.ref 59) "__setattr__" = some (some (.builtin "object.__setattr__"))
  what : takerIn K 59 "what" = some none
  at_ : takerIn K 59 "at" = some none
  obj : mroIn K 59 (.type "object") = some true
  dict : hasDictIn K 59 = true
  keep : keepIn K (.ref 59) = true
  o29 : K.lookup 29 = some ⟨.type "tuple", none, .seq #[.int (-1) 209] 0, #[]⟩
  ei : findCls K (.type "Exception") (.type "type") "__init__" = some (.val (.builtin "Exception.__init__"))
  exm : exmOne K (.ref 59) (.ref 46) = some true

section
variable {c : Wc} {f : Fc} {A : Around} {m : Loc} {M I : Led} {E : Value → Shared → Prop}
/-! a store into the dict at hand -/
theorem r_sid {dx : Addr} {od : Obj} {kvs : List (Str × Value)} {name : Str} {tk : Tok} {v : Value} {M' : Obj → Led} {Q : PySem.Fin → Led → Led → Prop} (U : ∀ o', Up dx od o' M (M' o')) (hs : SD c kvs od) (hz : kvs.length ≤ 900)
    (h : ∀ o', SD c (putK name v kvs) o' → Q (.done (.ret .none)) (M' o') I) : Te c f A m M I (storeInDict dx (.str name tk) name v) Q E := by
  refine .mk fun s ⟨g, L⟩ => ?_
  obtain ⟨es, n, rfl, he⟩ := hs
  have D := L.gM (U (dictOf es n)).mem
  have hp := he.put name s.toks v
  have hlen : (putL name (PyData.keyHash c.w.params name) (.str name s.toks) v es).length ≤ 1000 := by
    rw [hp.length]
    have : ∀ l : List (Str × Value), (putK name v l).length ≤ l.length + 1 := by
      intro l
      induction l with
      | nil => exact Nat.le_refl _
      | cons p r ih => unfold putK; split <;> simp only [List.length_cons] <;> omega
    have := this kvs
    omega
  have D' := Heap.get?_update_self (Obj.putName name (PyData.keyHash c.w.params name) (.str name s.toks) v) D (by rw [putName_dict]; rfl)
  rw [putName_dict] at D'
  have L' := L.upE (U _) (Heap.SameBut.update s.heap dx (Obj.putName name (PyData.keyHash c.w.params name) (.str name s.toks) v)).extBut D'
  unfold storeInDict newKeyGuard
  refine wpAny_bind (wpAny_pure (wpAny_bind ?_))
  unfold nsSet
  refine wpAny_bind (wpAny_bind (wpAny_askSetting (wpAny_pure (wpAny_bind (wpAny_mkText (wpAny_bind (wpAny_loadPart D ?_)))))))
  unfold dictOf
  dsimp only
  have hl : (getL name es).isSome = true := by rw [he.get name]; rfl
  have cc : (!es.toArray.any (·.key.isStr name) && es.toArray.any (·.refKey)) = false := by
    rw [← Array.any_toList, ← Array.any_toList]
    unfold getL at hl
    split at hl
    · rename_i en hen
      rw [List.any_eq_true.mpr ⟨en, List.mem_of_find?_eq_some hen, List.find?_some hen⟩]; rfl
    · split at hl
      · cases hl
      · rename_i z; rw [Bool.not_eq_true] at z; rw [z, Bool.and_false]
  rw [aRefKeyMayBeTheName_at, cc]
  refine wpAny_updatePart D ?_
  refine wpAny_bind (wpAny_lookBehind D' (pastItsLine_dict (by rw [List.size_toArray, sizeLine_eq]; omega)) ?_)
  exact wpAny_pure ⟨_, _, _, I, rfl, ⟨g, L'⟩, h _ ⟨_, _, rfl, hp⟩⟩

/-! stores into an exception of the class 59 -/
abbrev excD (C t : Addr) (d : Option Addr) : Obj := { cls := .ref C, dict := d, data := .fields #[.ref t, .none, .none, .none, .bool false, .none] }
theorem exc_open {g : Heap} {s : Shared} {R : Result → Shared → Prop} {x t : Addr} {d : Option Addr} {name : Str} {tk : Tok} {v : Value} (X : XF c.K) (L : Live0 c f g m M I s.heap) (hx : s.heap.get? x = some (excD 59 t d)) (ht : takerIn c.K 59 name = some none)
    (h : ∀ b, wpAny (model PW c.w) A.in1 (storeInOwnDict (.ref x) (.ref 59) (.str name tk) name v b)
      (fun fin s' => match fin with | .done f => R (.ok f) s' | .again c' => c'.quiet = true ∧ codeAny (model PW c.w) A c' R s') (fun e s' => R (.error e) s') s) :
    codeAny (model PW c.w) A (.call (.builtin "object.__setattr__") ⟨[.ref x, .str name tk, v], []⟩) R s := by
  have SF := PySem.F.store_object
  have ty : Looks (model PW c.w) s.heap (typeOf (.ref x)) (.ref 59) := (Looks.ld hx).andThen .now
  have sub : Looks (model PW c.w) s.heap (isInstance (.ref x) (.type "object")) true := ty.andThen (looks_mroIn L.Xh X.obj)
  obtain ⟨xq, hC⟩ := X.cls
  replace hC : XC _ xq.nm xq.qn 59 xq.N xq.bs xq.sn xq.sub xq.ab xq.col xq.dd xq.k0 xq.k1 xq.k2 xq.k3 xq.k5 := L.Xh _ _ hC
  refine codeAny_call_builtin SF.slot.plain SF.entry (@check_slot (model PW c.w) _ _ s "object.__setattr__" "object" "__setattr__" (.ref x) [.str name tk, v] [] _ SF.kind SF.split sub (SF.args (.ref x) (.str name tk) v) ?_)
  obtain ⟨attr, ha, hr⟩ := Option.bind_eq_some_iff.mp ht
  have L3 : Looks (model PW c.w) s.heap (storeTaker? attr) none := by
    cases attr with
    | none => exact .now
    | some a =>
      obtain ⟨b, hb, hb'⟩ := Option.map_eq_some_iff.mp hr
      refine (looks_takesIn L.Xh hb).andThen ?_
      cases b
      · exact .now
      · cases hb'
  rw [osa_eq, refuse_eq]
  refine wpAny_bind (wpAny_bind (ty.here (wpAny_bind (wpAny_mroOf_exc hC ?_))))
  rw [refuseLoop_ref, refuseLoop_ref, PySem.F.store_Exception.passes]
  exact wpAny_pure (wpAny_bind (ty.here (wpAny_bind ((looks_findIn L.Xh ha).here (wpAny_bind (L3.here (h _)))))))
theorem exc_set {g : Heap} {s : Shared} {Q : Unit → Shared → Prop} {x t : Addr} {d : Option Addr} {name : Str} {v : Value} (X : XF c.K) (L : Live0 c f g m M I s.heap) (hx : s.heap.get? x = some (excD 59 t d))
    (h : codeAny (model PW c.w) A (.call (.builtin "object.__setattr__") ⟨[.ref x, .str name s.toks, v], []⟩) (fun r s' => match r with | .ok (.ret _) => Q () s' | .ok _ => False | .error e => E e s') { s with toks := s.toks + 1 }) :
    wpAny (model PW c.w) A (setAttr (.ref x) name v) Q E s := by
  have ty : Looks (model PW c.w) s.heap (typeOf (.ref x)) (.ref 59) := (Looks.ld hx).andThen .now
  refine wpAny_bind (wpAny_mkText (wpAny_bind (wpAny_bind (wpAny_bind (ty _ _ _ _ (fun _ _ e => e) (looks_findIn L.Xh X.set _ _ _ _ (fun _ _ e => e) (wpAny_holding ?_)))))))
  rw [PySem.F.store_object.slot.bind]
  refine wpAny_bind (wpAny_pure (wpAny_bind (wpAny_call (codeAny_mono h fun r s' z => ?_))))
  rcases r with e | (v | _ | _ | _) <;> first | exact z | exact wpAny_pure (wpAny_pure z)
/-- a store, the dict at hand -/
theorem r_exc1 {x t dx : Addr} {od : Obj} {kvs : List (Str × Value)} {name : Str} {v : Value} {M' : Obj → Led} {Q : Unit → Led → Led → Prop} (X : XF c.K) (hx : (x, excD 59 t (some dx)) ∈ M ++ I) (ht : takerIn c.K 59 name = some none) (U : ∀ o', Up dx od o' M (M' o')) (hs : SD c kvs od) (hz : kvs.length ≤ 900)
    (h : ∀ o', SD c (putK name v kvs) o' → Q () (M' o') I) : Te c f A m M I (setAttr (.ref x) name v) Q E := by
  refine .mk fun s ⟨g, L⟩ => ?_
  refine exc_set X L (L.g hx) (exc_open (f := f) (m := m) (M := M) (I := I) (g := g) X L (L.g hx) ht fun b => ?_)
  unfold storeInOwnDict
  refine wpAny_bind (wpAny_pure (wpAny_bind (wpAny_bind (wpAny_loadPart (L.g hx) ?_))))
  obtain ⟨cd, hc, hd'⟩ := any_some X.dict
  refine wpAny_bind (Looks.here (s := { s with toks := s.toks + 1 }) (looks_clsIn L.Xh hc) ?_)
  rw [hd']
  refine wpAny_pure (a := some dx) ?_
  refine wpAny_mono ((r_sid (E := fun e s' => E e s') U hs hz (Q := fun fin M I => fin = .done (.ret .none) ∧ Q () M I) fun o' h' => ⟨rfl, h o' h'⟩).run { s with toks := s.toks + 1 } ⟨g, L⟩) (fun fin s' q => ?_) fun _ _ q => q
  obtain ⟨h', tk, M', I', rfl, L', rfl, q⟩ := q
  exact ⟨h', tk, M', I', rfl, L', q⟩
/-- a store, no dict yet -/
theorem r_exc0 {x t : Addr} {name : Str} {v : Value} {M' : Obj → Led} {Q : Unit → Led → Led → Prop} (X : XF c.K) (ht : takerIn c.K 59 name = some none) (U : ∀ o', Up x (excD 59 t none) o' M (M' o'))
    (h : ∀ dx o', SD c [(name, v)] o' → Q () ((dx, o') :: M' (excD 59 t (some dx))) I) : Te c f A m M I (setAttr (.ref x) name v) Q E := by
  refine .mk fun s ⟨g, L⟩ => ?_
  have hx := L.gM (U (excD 59 t none)).mem
  refine exc_set X L hx (exc_open (f := f) (m := m) (M := M) (I := I) (g := g) X L hx ht fun b => ?_)
  unfold storeInOwnDict
  refine wpAny_bind (wpAny_pure (wpAny_bind (wpAny_bind (wpAny_loadPart hx ?_))))
  obtain ⟨cd, hc, hd'⟩ := any_some X.dict
  refine wpAny_bind (Looks.here (s := { s with toks := s.toks + 1 }) (looks_clsIn L.Xh hc) ?_)
  rw [hd']
  have L1 := L.pushM { cls := .type "dict", data := .dict #[] }
  have hx1 := L1.gM (List.mem_cons_of_mem _ (U (excD 59 t none)).mem)
  have hg := Heap.get?_update_self (fun o => { o with dict := some s.heap.objs.size }) hx1 rfl
  have L2 := L1.upE (.tail (U (excD 59 t (some s.heap.objs.size)))) (Heap.SameBut.update _ x fun o => { o with dict := some s.heap.objs.size }).extBut hg
  refine wpAny_bind (wpAny_alloc' (wpAny_bind (wpAny_update' hx1 (wpAny_pure ?_))))
  refine wpAny_mono ((r_sid (E := fun e s' => E e s') (kvs := []) (M' := fun o' => (s.heap.objs.size, o') :: M' (excD 59 t (some s.heap.objs.size))) (fun _ => .head) SD.nil (by simp) (Q := fun fin M I => fin = .done (.ret .none) ∧ Q () M I) fun o' h' => ⟨rfl, h _ o' h'⟩).run { s with heap := _, toks := s.toks + 1 } ⟨g, L2⟩) (fun fin s' q => ?_) fun _ _ q => q
  obtain ⟨h', tk, M', I', rfl, L', rfl, q⟩ := q
  exact ⟨h', tk, M', I', rfl, L', q⟩
/-- Exception.__init__ -/
theorem r_excinit {x t : Addr} {v : Value} {M' : Obj → Led} {Q : Value → Led → Led → Prop} (X : XF c.K) (U : ∀ o', Up x (excD 59 t none) o' M (M' o'))
    (h : ∀ t', Q .none (M' (excD 59 t' none)) I) : Te c f A m M I (call (.builtin "Exception.__init__") [.ref x, v]) Q E := by
  refine .mk fun s ⟨g, L⟩ => ?_
  have F := PySem.F.excBase_Exception
  have hx := L.gM (U (excD 59 t none)).mem
  obtain ⟨xq, hC⟩ := X.cls
  replace hC : XC _ xq.nm xq.qn 59 xq.N xq.bs xq.sn xq.sub xq.ab xq.col xq.dd xq.k0 xq.k1 xq.k2 xq.k3 xq.k5 := L.Xh _ _ hC
  have hx1 := Heap.get?_push_of_some { cls := .type "tuple", data := .seq [v].toArray } hx
  have hg := Heap.get?_update_self (Obj.mapFields (·.setIfInBounds 0 (.ref s.heap.objs.size))) hx1 rfl
  have L2 := L.upE (U (excD 59 s.heap.objs.size none)) (((Heap.ExtBut.refl x s.heap).push { cls := .type "tuple", data := .seq [v].toArray }).trans (Heap.SameBut.update _ x (Obj.mapFields (·.setIfInBounds 0 (.ref s.heap.objs.size)))).extBut) hg
  obtain ⟨hp, g', d, tk, os⟩ := s
  have hcB : (Value.ref 59 :: bmP).contains (.type "Exception") = true := hasX 59 (by decide +kernel)
  have hshort := F.noStar
  refine wpAny_call (codeAny_call_builtin F.init.plain F.initEntry ?_)
  simp only [checkBuiltinCall, F.initKind, F.initSplit, F.initRow]
  repeat (first | (with_reducible refine wpAny_loadPart_at hx ?_) | with_reducible refine wpAny_loadPart_at hC ?_ | (refine wpAny_isSubtype_exc hC ?_; rw [hcB]) | wp_step)
  exact ⟨_, tk, _, I, rfl, ⟨g, L2⟩, h _⟩
end

end



section
variable {c : Wc} {f : Fc} {A : Around} {m : Loc} {M I : Led} {E : Value → Shared → Prop}
theorem gm_excinit (X : XF c.K) {pl : Sem Bool} {Q : Value × List Value → Led → Led → Prop} (h : Q (.builtin "Exception.__init__", []) M I) : Te c f A m M I (getMethod (.type "Exception") "__init__" pl) Q E :=
  Te.here (v := (.builtin "Exception.__init__", [])) (fun s R L r => method_type L.F L.X rfl (by kernel_rfl) X.ei (by kernel_rfl) (r _)) h
theorem init_Fault (k : KF c.K) (X : XF c.K) {x t : Addr} {v : Value} : Fn c 90 (.ref 36) [.ref x, v] ((x, excD 59 t none) :: M) I (fun r M1 I1 => r = .none ∧ I1 = I ∧ ∃ t' dx od, M1 = (dx, od) :: (x, excD 59 t' (some dx)) :: M) := by
  refine .mk fun f A m E ar => ?_
  refine enterB (binds := [("self", .ref x), ("what", v), ("at", .int (-1) 209)]) (loc := [("at", .int (-1) 209), ("what", v), ("self", .ref x)]) rfl k.f_PaperError_init__ ar (by decide) (fun s Lv nm kV doc pm an ct => binds_K Lv.Xh rfl X.o29 rfl rfl rfl) (locs (by kernel_rfl)) (by decide +kernel) (by kernel_rfl) (by kernel_rfl) (by kernel_rfl) fun q A' R ar' hR => ?_
  refine s_cons ?_
  refine s_expr ?_ (by kernel_rfl) (by kernel_rfl)
  refine e_mcall ?_
  refine e_builtin k.b_Exception PyProof.Rows.Boot.«Exception» (by decide +kernel) (by kernel_rfl) (by kernel_rfl) (by kernel_rfl) (by kernel_rfl) (by kernel_rfl) ?_
  refine gm_excinit X ?_
  refine cw_M (by kernel_rfl) ?_
  repeat walk_at "mE"
  refine r_excinit (M' := fun o' => (x, o') :: M) X (fun _ => .head) fun t' => ?_
  repeat walk_at "mE"
  refine r_exc0 (M' := fun o' => (x, o') :: M) X X.what (fun _ => .head) fun dx od hs => ?_
  repeat walk_at "mE"
  refine r_exc1 (M' := fun o' => (dx, o') :: (x, excD 59 t' (some dx)) :: M) X (List.mem_append_left _ (.tail _ (.head _))) X.at_ (fun _ => .head) hs (Nat.le_of_ble_eq_true rfl) fun od' hs' => ?_
  repeat walk_at "mE"
  exact ⟨rfl, rfl, t', dx, od', rfl⟩
theorem mk_Fault (k : KF c.K) (X : XF c.K) {x : Str} {tk : Tok} {r : Nat} (ar : Ar f A r) (hr : r < 89) {Q : Value → Led → Led → Prop} (h : ∀ e t dx, Q (.ref e) ((e, excD 59 t (some dx)) :: M) I) : Te c f A m M I (call (.ref 59) [.str x tk]) Q E := by
  refine .post (.mk fun s ⟨g, L⟩ => ?_)
  obtain ⟨xq, hC⟩ := X.cls
  replace hC : XC _ xq.nm xq.qn 59 xq.N xq.bs xq.sn xq.sub xq.ab xq.col xq.dd xq.k0 xq.k1 xq.k2 xq.k3 xq.k5 := L.Xh _ _ hC
  have L1 := (L.keep (h' := s.heap.push { cls := .type "tuple", data := .seq [.str x tk].toArray }) (fun b o e => Heap.get?_push_of_some _ e)).pushM (excObj 59 s.heap.objs.size)
  rw [Heap.size_push] at L1
  obtain ⟨hp, gg, d, tkk, os⟩ := s
  refine wpAny_call (x_make hC (looks_findIn L.Xh X.init) (fun self => bind_fn L.Xh self (beq_iff_eq.mp X.ifn)) ?_)
  refine codeAny_mono (((init_Fault k X).cd (f := f) (m := m) (E := E) (ar.make (by omega)) (by omega) (by decide) fun _ _ _ q => q).run ⟨_, gg, d, tkk, os⟩ ⟨g, L1⟩) fun rr s' q => ?_
  rcases rr with e | (v | _ | _ | _) <;> first | exact q | exact q.elim | skip
  obtain ⟨h2, tk2, M', I', rfl, L2, rfl, rfl, t', dx, od, rfl⟩ := q
  exact ⟨rfl, h2, tk2, _, _, rfl, L2, .shed (.drop .head) (.of (h _ t' dx))⟩
theorem raiseStmt_X {xs : Sem Value} {s s0 : Shared} {env : Env} (X : XF c.K) (hh : A.handled = none) {M₀ I₀ : Led}
    (h : wpAny (model PW c.w) A xs (fun v s₁ => ∃ e t dx h tk, v = .ref e ∧ s₁ = { s with heap := h, toks := tk } ∧ Live c f m ((e, excD 59 t (some dx)) :: M₀) I₀ h) (fun _ _ => False) s0) :
    wpAny (model PW c.w) A (raiseStmt env (some xs) none) (fun _ _ => False) (RaiseAt c f s M₀ I₀ (.ref 59)) s0 := by
  have hcB : (Value.ref 59 :: bmP).contains (.type "BaseException") = true := hasX 59 (by decide +kernel)
  unfold raiseStmt
  refine wpAny_bind (wpAny_mono h (fun v s₁ h₁ => ?_) fun _ _ x => x.elim)
  obtain ⟨e, t, dx, h1, tk1, rfl, rfl, L1⟩ := h₁
  obtain ⟨xq, hC⟩ := X.cls
  replace hC : XC _ xq.nm xq.qn 59 xq.N xq.bs xq.sn xq.sub xq.ab xq.col xq.dd xq.k0 xq.k1 xq.k2 xq.k3 xq.k5 := L1.Xh _ _ hC
  have he := L1.gM (.head _)
  obtain ⟨hp, gg, d, tkk, os⟩ := s
  repeat (first | with_reducible refine wpAny_loadPart_at he ?_ | with_reducible refine wpAny_loadPart_at hC ?_ | (refine wpAny_isSubtype_exc hC ?_; rw [hcB]) | wp_step)
  refine wpAny_raiseNew_none hh ?_
  exact ⟨e, _, _, .ref t, h1, tk1, m, rfl, rfl, L1, rfl, rfl, rfl, rfl⟩
theorem raise_X {x : PySem.Expr} {pos : Pos} {s : Shared} (X : XF c.K) (hh : A.handled = none) (L : Live c f m M I s.heap) {M₀ I₀ : Led} (h : Te c f A m M I (eval x f.env) (fun v M1 I1 => ∃ e t dx, v = .ref e ∧ M1 = (e, excD 59 t (some dx)) :: M₀ ∧ I1 = I₀) (fun _ _ => False)) :
    wpAny (model PW c.w) A (exec (.Raise (some x) none pos) f.env) (fun _ _ => False) (RaiseAt c f s M₀ I₀ (.ref 59)) s := by
  have key : wpAny (model PW c.w) A (eval x f.env) (fun v s₁ => ∃ e t dx h tk, v = .ref e ∧ s₁ = { s with heap := h, toks := tk } ∧ Live c f m ((e, excD 59 t (some dx)) :: M₀) I₀ h) (fun _ _ => False) s :=
    wpAny_mono (h.run s L) (fun v s' ⟨h', tk, M', I', e1, L', e, t, dx, e2, e3, e4⟩ => by subst e3 e4; exact ⟨e, t, dx, h', tk, e2, e1, L'⟩) fun _ _ q => q.elim
  rw [arm_exec_Raise]
  first
    | exact wpAny_bind (wpAny_standAt (raiseStmt_X (s := s) X hh (wpAny_bind (wpAny_mono key (fun v s₁ h₁ => wpAny_bind (wpAny_standAt (wpAny_pure h₁))) fun _ _ x => x))))
    | (simp only [evalOpt, Option.map]; exact wpAny_bind (wpAny_standAt (raiseStmt_X (s := s) X hh (wpAny_bind (wpAny_mono key (fun v s₁ h₁ => wpAny_bind (wpAny_standAt (wpAny_pure h₁))) fun _ _ x => x)))))
    | (show wpAny _ A (do standAt pos; raiseStmt f.env (some (do let v ← eval x f.env; standAt pos; pure v)) none) _ _ s; exact wpAny_bind (wpAny_standAt (raiseStmt_X (s := s) X hh (wpAny_bind (wpAny_mono key (fun v s₁ h₁ => wpAny_bind (wpAny_standAt (wpAny_pure h₁))) fun _ _ x => x)))))
end




def prsOf (b : List UInt8) : List (Nat × Nat) := ((b.map (·.toNat)).filter (fun k => decide (10 ≤ k))).map fun k => (k / 10, k)
theorem prs_step {b : List UInt8} {i : Nat} {x : UInt8} (h : b[i]? = some x) : prsOf (b.take (i + 1)) = prsOf (b.take i) ++ (if 10 ≤ x.toNat then [(x.toNat / 10, x.toNat)] else []) := by
  have e : b.take (i + 1) = b.take i ++ [x] := by rw [List.take_add_one, h]; rfl
  unfold prsOf
  rw [e, List.map_append, List.filter_append, List.map_append]
  congr 1
  by_cases hx : 10 ≤ x.toNat <;> simp [hx]
section
variable {c : Wc} {f : Fc} {A : Around} {m : Loc} {M I : Led} {E : Value → Shared → Prop}
theorem c_ge {a b : Int} {t u : Tok} {Q : Value → Led → Led → Prop} (h : Q (.bool (decide (b ≤ a))) M I) : Te c f A m M I (compareOp .GtE (.int a t) (.int b u)) Q E := Te.here (fun s R L r => PyProof.Rows.ge_int (r s.toks)) h
def PrIs (c : Wc) (I : Led) (p : Nat × Nat) (v : Value) : Prop := ∃ t ot u1 u2, v = .ref t ∧ (t, ot) ∈ I ∧ TO [.int (p.1 : Int) u1, .int (p.2 : Int) u2] ot
theorem PrIs.mono {I I' : Led} {p : Nat × Nat} {v : Value} (hs : I ⊆ I') (h : PrIs c I p v) : PrIs c I' p v := let ⟨t, ot, u1, u2, e, hm, ho⟩ := h; ⟨t, ot, u1, u2, e, hs hm, ho⟩
/-- what the read def finds in octets that it takes -/
theorem fn_read (k : KF c.K) {sh a st : Addr} {b : List UInt8} {tk : Tok} (i : Inst c I 226 [("head", .ref a), ("octets", .bytes b.toArray tk)] st) (hb : b.length ≤ 100) (h9 : b.head? ≠ some 9) :
    Fn c 90 (.ref 529) [.ref sh, .ref st] M I (fun r M1 I1 => I ⊆ I1 ∧ ∃ l ol vs, r = .ref l ∧ M1 = (l, ol) :: M ∧ LO vs ol ∧ Al (PrIs c I1) (prsOf b) vs) := by
  refine .mk fun f A m E ar => .post ?_
  refine enter (binds := [("shelf", .ref sh), ("stream", .ref st)]) (loc := [("stream", .ref st), ("shelf", .ref sh)]) rfl k.f_law_read ar (by decide) (by intros; kernel_rfl) (locs (by kernel_rfl)) (by decide +kernel) (by kernel_rfl) (by kernel_rfl) (by kernel_rfl) fun q A' R ar' hR => ?_
  refine s_cons ?_
  repeat (first | walk_at "mE" | walk_at "mGet")
  refine l_bytes ar'.hd (line_of (by omega)) fun l ol vs hol hvs => ?_
  walk_at "mE"
  refine s_cons ?_
  have hl : vs.length = b.length := by rw [hvs.length, List.length_map]
  refine s_if (Te.mono (Q := fun bb M2 I2 => bb = false ∧ I2 = I ∧ Shed M2 I ((l, ol) :: M) I) ?_ fun bb M2 I2 ⟨e1, e2, hs⟩ => ?_)
  · repeat walk_at "mE"
    refine n_list (Nat.zero_le _) fun el oel hel => ?_
    cases b with
    | nil =>
      obtain rfl := List.length_eq_zero_iff.mp hl
      refine c_nenil (List.mem_append_left _ (.tail _ (.head _))) (List.mem_append_left _ (.head _)) hol hel (by have := ar'.un; show _ < 9900; omega) ?_
      repeat walk_at "mE"
      exact ⟨rfl, rfl, .drop .head⟩
    | cons x r =>
      refine c_nelists (List.mem_append_left _ (.tail _ (.head _))) (List.mem_append_left _ (.head _)) hol hel (by rw [hl]; simp) (by have := ar'.un; show _ < 9900; omega) ?_
      repeat walk_at "mE"
      obtain ⟨v0, vr, rfl⟩ : ∃ v0 vr, vs = v0 :: vr := by cases vs with
        | nil => simp at hl
        | cons v0 vr => exact ⟨v0, vr, rfl⟩
      obtain ⟨n, t, e0, rfl⟩ := ints_at' hvs (i := 0) rfl
      simp only [List.map_cons, List.getElem?_cons_zero, Option.some.injEq] at e0
      subst e0
      refine i_list (List.mem_append_left _ (.tail _ (.head _))) hol (by decide) (by decide) rfl (by kernel_rfl) ?_
      have e9 : ((x.toNat : Int) == 9) = false := by
        rw [beq_eq_false_iff_ne]
        intro e
        apply h9
        have : x.toNat = 9 := by omega
        simp only [List.head?_cons, Option.some.injEq]
        exact UInt8.toNat.inj this
      refine Te.mono (Q := fun v M2 I2 => (∃ t, v = .int 9 t) ∧ M2 = (el, oel) :: (l, ol) :: M ∧ I2 = I) ?_ ?_
      · repeat walk_at "mE"
        exact ⟨⟨_, rfl⟩, rfl, rfl⟩
      rintro v M2 I2 ⟨⟨t9, rfl⟩, rfl, rfl⟩
      refine c_eq ?_
      rw [e9]
      repeat walk_at "mE"
      exact ⟨rfl, rfl, .drop .head⟩
  subst e1 e2
  refine ite_f ?_
  refine .shed hs ?_
  repeat walk_at "mE"
  refine e_comp (cl := []) (by kernel_rfl) (by decide +kernel) (by kernel_rfl) (by decide +kernel) (fun _ => by kernel_rfl) ?_
  repeat walk_at "mE"
  refine p_list (List.mem_append_left _ (.head _)) hol ar'.hd fun it oi O Wl h0 => ?_
  refine ⟨it, oi, _, _, _, O, _, fun j ys M1 I1 => M1 = (l, ol) :: M ∧ I2 ⊆ I1 ∧ Al (PrIs c I1) (prsOf (b.take j)) ys, rfl, rfl, Wl _ _, h0, ⟨rfl, fun p hp => hp, .nil⟩, line_of (by omega), ?_, ?_, ?_⟩
  · rintro j ys M1 I1 ⟨rfl, _, _⟩
    exact src1 (.head _)
  · rintro j ys M1 I1 v o' C oC D oD lm hj hv ⟨rfl, hsub, hys⟩ hno hlo Ry Rn hRy hRn
    obtain ⟨n, t, hn, rfl⟩ := ints_at' hvs hv
    obtain ⟨x, hx, rfl⟩ : ∃ x : UInt8, b[j]? = some x ∧ n = (x.toNat : Int) := by
      rw [List.getElem?_map] at hn
      cases hb2 : b[j]? with
      | none => rw [hb2] at hn; cases hn
      | some x => rw [hb2] at hn; exact ⟨x, rfl, (Option.some.inj hn).symm⟩
    refine as_name ?_
    refine cn_local (fun o' => .head) hno (by kernel_rfl) (by kernel_rfl) fun oC1 hno1 => ⟨rfl, ?_⟩
    refine tt_one ?_
    repeat walk_at "mE"
    refine ce_local (List.mem_append_left _ (.head _)) hno1 .here (by kernel_rfl) (by kernel_rfl) (by kernel_rfl) ?_
    repeat walk_at "mE"
    refine c_ge ?_
    have hj' : prsOf (b.take (j + 1)) = _ := prs_step hx
    by_cases h10 : 10 ≤ x.toNat
    · rw [if_pos h10] at hj'
      rw [show decide ((10 : Int) ≤ (x.toNat : Int)) = true from by simp; omega]
      repeat walk_at "mE"
      refine ce_local (List.mem_append_left _ (.head _)) hno1 .here (by kernel_rfl) (by kernel_rfl) (by kernel_rfl) ?_
      repeat walk_at "mE"
      refine o_fdiv (by decide) (by decide) fun t1 => ?_
      repeat walk_at "mE"
      refine ce_local (List.mem_append_left _ (.head _)) hno1 .here (by kernel_rfl) (by kernel_rfl) (by kernel_rfl) ?_
      repeat walk_at "mE"
      refine n_tuple (Nat.le_of_ble_eq_true rfl) fun t2 o2 h2 => ?_
      refine hRy.go ⟨oC1, _, rfl, ⟨_, hno1⟩, rfl, fun p hp => .tail _ (hsub hp), ?_⟩
      rw [hj']
      refine (hys.imp fun _ _ => PrIs.mono fun p hp => .tail _ hp).append (.cons ⟨t2, o2, t1, t, rfl, .head _, ?_⟩ .nil)
      have e : ((x.toNat : Int)).fdiv 10 = ((x.toNat / 10 : Nat) : Int) := by rw [Int.fdiv_eq_ediv_of_nonneg _ (by omega)]; omega
      rw [← e]
      exact h2
    · rw [if_neg h10, List.append_nil] at hj'
      rw [show decide ((10 : Int) ≤ (x.toNat : Int)) = false from by simp; omega]
      repeat walk_at "mE"
      refine ⟨oC1, _, rfl, ⟨_, hno1⟩, rfl, hsub, ?_⟩
      rw [hj']
      exact hys
  · rintro ys M1 I1 D oD ⟨rfl, hsub, hys⟩ hlo
    rw [show vs.length = b.length from hl, List.take_length] at hys
    repeat walk_at "mE"
    exact .shed (.drop (.tail .head)) (.of ⟨hsub, _, _, _, rfl, rfl, hlo, hys⟩)

/-! a body that raises -/
structure Rx (c : Wc) (f : Fc) (A : Around) (m : Loc) (M I : Led) (t : Sem Flow) (M₀ I₀ : Led) (cls : Value) : Prop where
  run : ∀ s : Shared, Live c f m M I s.heap → wpAny (model PW c.w) A t (fun _ _ => False) (RaiseAt c f s M₀ I₀ cls) s
theorem RaiseAt.at {s : Shared} {h : Heap} {tk : Nat} {M₀ I₀ : Led} {cls v : Value} {s' : Shared} (r : RaiseAt c f { s with heap := h, toks := tk } M₀ I₀ cls v s') : RaiseAt c f s M₀ I₀ cls v s' := r
theorem rx_next {st : Stmt} {rest : List Stmt} {M₀ I₀ : Led} {cls : Value} (h : Ts c f A m M I (exec st f.env) (fun fl m M I => fl = .next ∧ Rx c f A m M I (execs rest f.env) M₀ I₀ cls) (fun _ _ => False)) : Rx c f A m M I (execs (st :: rest) f.env) M₀ I₀ cls :=
  .mk fun s L => wpAny_execs_cons (wpAny_mono (h.run s L) (fun fl s' q => by
    obtain ⟨h1, t1, m1, M1, I1, rfl, L1, rfl, q⟩ := q
    exact q.run { s with heap := h1, toks := t1 } L1) fun _ _ q => q.elim)
theorem rx_head {st : Stmt} {rest : List Stmt} {M₀ I₀ : Led} {cls : Value} (h : Rx c f A m M I (exec st f.env) M₀ I₀ cls) : Rx c f A m M I (execs (st :: rest) f.env) M₀ I₀ cls :=
  .mk fun s L => wpAny_execs_cons (wpAny_mono (h.run s L) (fun _ _ q => q.elim) fun _ _ q => q)
theorem rx_if {test : PySem.Expr} {body orelse : List Stmt} {pos : Pos} {M₀ I₀ : Led} {cls : Value} (h : Te c f A m M I (isTrue test f.env (eval test f.env)) (fun b M I => b = true ∧ Rx c f A m M I (execs body f.env) M₀ I₀ cls) (fun _ _ => False)) :
    Rx c f A m M I (exec (.If test body orelse pos) f.env) M₀ I₀ cls :=
  .mk fun s L => wpAny_If (wpAny_mono (h.run s L) (fun b s' q => by
    obtain ⟨h1, t1, M1, I1, rfl, L1, rfl, q⟩ := q
    exact q.run { s with heap := h1, toks := t1 } L1) fun _ _ q => q.elim)
theorem fx_read (k : KF c.K) (X : XF c.K) {sh a st : Addr} {b : List UInt8} {tk : Tok} (i : Inst c I 226 [("head", .ref a), ("octets", .bytes b.toArray tk)] st) (hb : b.length ≤ 100) (h9 : b.head? = some 9) :
    Fx c 87 (.ref 529) [.ref sh, .ref st] M I (.ref 59) := by
  refine enterX (binds := [("shelf", .ref sh), ("stream", .ref st)]) (loc := [("stream", .ref st), ("shelf", .ref sh)]) rfl k.f_law_read (by decide) (by intros; kernel_rfl) (locs (by kernel_rfl)) (by decide +kernel) (by kernel_rfl) (by kernel_rfl) (by kernel_rfl) fun q A' s ar' Lv => ?_
  refine Rx.run ?_ s Lv
  refine rx_next ?_
  repeat (first | walk_at "mE" | walk_at "mGet")
  refine l_bytes ar'.hd (line_of (by omega)) fun l ol vs hol hvs => ?_
  have hl : vs.length = b.length := by rw [hvs.length, List.length_map]
  refine ⟨rfl, rx_head (rx_if ?_)⟩
  repeat walk_at "mE"
  refine n_list (Nat.zero_le _) fun el oel hel => ?_
  obtain ⟨r, rfl⟩ : ∃ r, b = 9 :: r := by
    cases b with
    | nil => cases h9
    | cons x r => cases h9; exact ⟨r, rfl⟩
  refine c_nelists (List.mem_append_left _ (.tail _ (.head _))) (List.mem_append_left _ (.head _)) hol hel (by rw [hl]; simp) (by have := ar'.un; show _ < 9900; omega) ?_
  repeat walk_at "mE"
  obtain ⟨v0, vr, rfl⟩ : ∃ v0 vr, vs = v0 :: vr := by cases vs with
    | nil => simp at hl
    | cons v0 vr => exact ⟨v0, vr, rfl⟩
  obtain ⟨n, t, e0, rfl⟩ := ints_at' hvs (i := 0) rfl
  simp only [List.map_cons, List.getElem?_cons_zero, Option.some.injEq] at e0
  subst e0
  refine i_list (List.mem_append_left _ (.tail _ (.head _))) hol (by decide) (by decide) rfl (by kernel_rfl) ?_
  repeat walk_at "mE"
  refine c_eq ?_
  rw [show (((9 : UInt8).toNat : Int) == 9) = true from by decide]
  repeat walk_at "mE"
  refine ⟨rfl, rx_head (.mk fun s L => raise_X X ar'.hd L ?_)⟩
  refine .shed (.trans (.drop .head) (.drop .head)) ?_
  repeat walk_at "mE"
  refine cw_K X.keep ?_
  repeat walk_at "mE"
  exact mk_Fault k X ar' (by decide) fun e t dx => ⟨e, t, dx, rfl, rfl, rfl⟩
end




section
variable {c : Wc} {f : Fc} {A : Around} {m : Loc} {M I : Led} {E : Value → Shared → Prop}
/-! a tree that raises an exception on its way -/
structure Tx (c : Wc) (f : Fc) (A : Around) {α : Type} (m : Loc) (M I : Led) (t : Sem α) (cls : Value) : Prop where
  run : ∀ s : Shared, Live c f m M I s.heap → wpAny (model PW c.w) A t (fun _ _ => False) (fun v s' => ∃ e h tk, v = .ref e ∧ s' = { s with heap := h, toks := tk } ∧ Fly c f m M I e cls h) s
theorem tx_call {func : PySem.Expr} {args : List PySem.Expr} {pos : Pos} {cls : Value} (h : Te c f A m M I (eval func f.env) (fun g M' I' => M' = M ∧ I' = I ∧ Tx c f A m M I (callWith pos g [] (backTo pos (starEach args f.env)) []) cls) (fun _ _ => False))
    (he : eval (.Call func args [] pos) f.env = (do callWith pos (← eval func f.env) [] (backTo pos (starEach args f.env)) (backToKw pos (keywordEach [] f.env))) := by rfl) : Tx c f A m M I (eval (.Call func args [] pos) f.env) cls :=
  .mk fun s L => Call_ (wpAny_mono (h.run s L) (fun v s' q => by
    obtain ⟨h1, t1, M1, I1, rfl, L1, rfl, rfl, q⟩ := q
    exact q.run { s with heap := h1, toks := t1 } L1) fun _ _ q => q.elim) he
theorem tx_args {g : Value} {pos : Pos} {e : PySem.Expr} {rest : List PySem.Expr} {cls : Value} (hk : keepIn c.K g = true)
    (h : Te c f A m M I (spliced (backTo pos (starEach (e :: rest) f.env))) (fun vs M' I' => M' = M ∧ I' = I ∧ Tx c f A m M I (call g vs) cls) (fun _ _ => False))
    (he : starEach (e :: rest) f.env = (false, eval e f.env) :: starEach rest f.env := by rfl) (hp : (backTo pos (starEach rest f.env)).any (·.1) = false := by rfl) :
    Tx c f A m M I (callWith pos g [] (backTo pos (starEach (e :: rest) f.env)) []) cls :=
  .mk fun s L => callWith_K L.Xh hk (wpAny_mono (h.run s L) (fun v s' q => by
    obtain ⟨h1, t1, M1, I1, rfl, L1, rfl, rfl, q⟩ := q
    exact ⟨L1.Xh, q.run { s with heap := h1, toks := t1 } L1⟩) fun _ _ q => q.elim) he hp
theorem tx_assign {x : Str} {pos' pos : Pos} {value : PySem.Expr} {cls : Value} (h : Tx c f A m M I (eval value f.env) cls) (hs : swapsWith value (some (.Name x pos')) pos.line f.env = pure false) : Tx c f A m M I (exec (.Assign [.Name x pos'] value pos) f.env) cls :=
  .mk fun s L => wpAny_Assign_Name (wpAny_mono (h.run s L) (fun _ _ q => q.elim) fun _ _ q => q) hs
theorem tx_head {st : Stmt} {rest : List Stmt} {cls : Value} (h : Tx c f A m M I (exec st f.env) cls) : Tx c f A m M I (execs (st :: rest) f.env) cls :=
  .mk fun s L => wpAny_execs_cons (wpAny_mono (h.run s L) (fun _ _ q => q.elim) fun _ _ q => q)
theorem Fx.tx {r r' : Nat} {g : Value} {args : List Value} {cls : Value} (h : Fx c r g args M I cls) (a : Ar f A r') (hr : r' ≤ r) (hr' : r ≤ 100) : Tx c f A m M I (call g args) cls :=
  .mk fun s L => wpAny_call (codeAny_mono (h.run f A m (a.up hr hr') s L) fun r s' q => by
    obtain ⟨e, h', tk, M', I', rfl, e2, F, rfl, rfl⟩ := q
    exact ⟨e, h', tk, rfl, e2, F⟩)

def packOf (p : Pc) : List Pc := match p.val with
  | .stm kvs b => if isWord "ObjStm" (lfAt kvs "Type") = true ∧ b.head? ≠ some 9 then (prsOf b).map fun q => ⟨q.1, 0, p.beg, p.fin, .num q.2⟩ else []
  | _ => []
def octOk : Vl → Bool
  | .stm _ b => decide (b.length ≤ 10)
  | _ => true
theorem fn_packed (k : KF c.K) (X : XF c.K) {sh : Addr} {tb tr : Value} {p : Pc} {v : Value} (i : ShI c I tb tr sh) (hp : PcIs c I p v) (hb : octOk p.val = true) :
    Fn c 86 (.ref 463) [.ref sh, v, .ref 529] M I (fun r M1 I1 => I ⊆ I1 ∧ ∃ l ol vs, r = .ref l ∧ M1 = (l, ol) :: M ∧ LO vs ol ∧ PcsIs c I1 (packOf p) vs) := by
  obtain ⟨x, v1, t1, t2, t3, t4, rfl, ip, hvl⟩ := hp
  refine .mk fun f A m E ar => .post ?_
  refine enterP (binds := [("shelf", .ref sh), ("piece", .ref x), ("read", .ref 529)]) (loc := [("read", .ref 529), ("shelf", .ref sh)]) (n := "piece") (v := .ref x) k.f_packed_pieces ar (by decide) (by intros; kernel_rfl) (by kernel_rfl) (fun _ => by kernel_rfl) (by kernel_rfl) (bindL_of (by kernel_rfl)) (by kernel_rfl) (by kernel_rfl) (by kernel_rfl) fun L q A' R ar' hR oc hoc => ?_
  have i2 : ShI c ((L, oc) :: I) tb tr sh := i.mono fun p hp => .tail _ hp
  have ip2 := ip.mono (I' := (L, oc) :: I) fun p hp => .tail _ hp
  have hvl2 : VlIs c ((L, oc) :: I) p.val v1 := hvl.mono fun p hp => .tail _ hp
  have hh := hvl.handed
  refine s_cons ?_
  repeat (first | walk_at "mE" | walk_at "mGet")
  refine e_cell (by kernel_rfl) (.head _) hoc (by kernel_rfl) (by kernel_rfl) ?_
  repeat (first | walk_at "mE" | walk_at "mGet")
  refine (fn_is_obj k i2 hvl2).te ar' (by decide) (by decide) fun r M2 I2 ⟨q1, q2, q3⟩ => ?_
  subst q1 q2 q3
  repeat walk_at "mE"
  have back : ∀ {M1 I1 : Led}, I1 = (L, oc) :: I → ∀ l ol, M1 = (l, ol) :: M2 → LO [] ol → packOf p = [] → Post (fun (r : Value) M1 I1 => I ⊆ I1 ∧ ∃ l ol vs, r = .ref l ∧ M1 = (l, ol) :: M2 ∧ LO vs ol ∧ PcsIs c I1 (packOf p) vs) (Value.ref l) M1 I1 := by
    rintro M1 I1 rfl l ol rfl hl hn
    rw [hn]
    exact .of ⟨fun p hp => .tail _ hp, l, ol, [], rfl, rfl, hl, .nil⟩
  obtain ⟨num, gen, beg, fin, val⟩ := p
  dsimp only at *
  cases hO : isObjS val with
  | false =>
    have hn : packOf ⟨num, gen, beg, fin, val⟩ = [] := by
      cases val with
      | stm kvs b => show (if _ then _ else _) = _; rw [if_neg]; rintro ⟨h1, _⟩; rw [show isObjS (.stm kvs b) = isWord "ObjStm" (lfAt kvs "Type") from rfl, h1] at hO; cases hO
      | num n => rfl
      | dic kvs => rfl
    repeat walk_at "mE"
    refine n_list (Nat.zero_le _) fun l ol hl => ?_
    repeat walk_at "mE"
    exact back rfl _ _ rfl hl hn
  | true =>
    obtain ⟨kvs, b, rfl⟩ : ∃ kvs b, val = .stm kvs b := by
      cases val with
      | stm kvs b => exact ⟨kvs, b, rfl⟩
      | num n => cases hO
      | dic kvs => cases hO
    obtain ⟨st, a, tb', rfl, ist, _⟩ := id hvl2
    have hb' : b.length ≤ 100 := Nat.le_trans (of_decide_eq_true hb : b.length ≤ 10) (by decide)
    have hw : isWord "ObjStm" (lfAt kvs "Type") = true := hO
    refine ite_f ?_
    refine s_nil ?_
    refine s_cons ?_
    by_cases h9 : b.head? = some 9
    · have hn : packOf ⟨num, gen, beg, fin, .stm kvs b⟩ = [] := by show (if _ then _ else _) = _; rw [if_neg]; rintro ⟨_, h2⟩; exact h2 h9
      refine s_try (cls := .ref 59) (cv := .ref 46) (M2 := M2) (I2 := (L, oc) :: I) ar'.fr k.g_PaperError X.exm (by kernel_rfl) (by kernel_rfl) (fun s Lv => Tx.run (tx_head (tx_assign (tx_call ?_) (by kernel_rfl))) s Lv) fun A' => ?_
      · repeat walk_at "mE"
        refine ⟨rfl, rfl, tx_args (k.keeps (by decide +kernel)) ?_⟩
        repeat walk_at "mE"
        refine e_cell (by kernel_rfl) (.head _) hoc (by kernel_rfl) (by kernel_rfl) ?_
        repeat (first | walk_at "mE" | walk_at "mGet")
        exact ⟨rfl, rfl, (fx_read k X ist hb' h9).tx ar' (by decide) (by decide)⟩
      · repeat walk_at "mE"
        refine n_list (Nat.zero_le _) fun l ol hl => ?_
        repeat walk_at "mE"
        exact back rfl _ _ rfl hl hn
    · have hn : packOf ⟨num, gen, beg, fin, .stm kvs b⟩ = (prsOf b).map fun q => ⟨q.1, 0, beg, fin, .num q.2⟩ := by show (if _ then _ else _) = _; rw [if_pos ⟨hw, h9⟩]
      refine s_tryN ?_
      repeat walk_at "mE"
      refine e_cell (by kernel_rfl) (.head _) hoc (by kernel_rfl) (by kernel_rfl) ?_
      repeat (first | walk_at "mE" | walk_at "mGet")
      refine (fn_read k ist hb' h9).te ar' (by decide) (by decide) fun r M1 I1 ⟨hs, l, ol, vs, e1, e2, hol, hvs⟩ => ?_
      subst e1 e2
      repeat walk_at "mE"
      refine e_comp (cl := [("piece", L)]) (by kernel_rfl) (by decide +kernel) (by kernel_rfl) (by decide +kernel) (fun _ => by kernel_rfl) ?_
      repeat walk_at "mE"
      have hlen : vs.length ≤ 100 := by
        rw [hvs.length]
        unfold prsOf
        rw [List.length_map]
        exact Nat.le_trans (List.length_filter_le _ _) (by rw [List.length_map]; exact hb')
      refine p_list (List.mem_append_left _ (.head _)) hol ar'.hd fun it oi O Wl h0 => ?_
      refine ⟨it, oi, _, _, _, O, _, fun j ys M3 I3 => M3 = (l, ol) :: M2 ∧ I1 ⊆ I3 ∧ PcsIs c I3 (((prsOf b).take j).map fun q => ⟨q.1, 0, beg, fin, .num q.2⟩) ys, rfl, rfl, Wl _ _, h0, ⟨rfl, fun p hp => hp, .nil⟩, line_of (by omega), ?_, ?_, ?_⟩
      · rintro j ys M3 I3 ⟨rfl, _, _⟩
        exact src1 (.head _)
      · rintro j ys M3 I3 v o' C oC D oD lm hj hv ⟨rfl, hsub, hys⟩ hno hlo Ry Rn hRy hRn
        obtain ⟨q, hq, t, ot, u1, u2, rfl, hmt, hot⟩ := hvs.at hv
        have hoc3 : (L, oc) ∈ I3 := hsub (hs (.head _))
        have ip3 := ip2.mono (I' := I3) fun p hp => hsub (hs hp)
        refine u_pair ar'.hd (hsub hmt) hot ?_
        refine as_name ?_
        refine cn_local (fun o' => .head) hno (by kernel_rfl) (by kernel_rfl) fun oC1 hno1 => ?_
        refine as_name ?_
        refine cn_local (fun o' => .head) hno1 (by kernel_rfl) (by kernel_rfl) fun oC2 hno2 => ⟨rfl, ?_⟩
        refine tt_nil ?_
        refine ite_t ?_
        repeat walk_at "mE"
        refine ce_local (List.mem_append_left _ (.head _)) hno2 (.there (by decide +kernel) .here) (by kernel_rfl) (by kernel_rfl) (by kernel_rfl) ?_
        repeat walk_at "mE"
        refine ce_cell (by kernel_rfl) (List.mem_append_right _ hoc3) hoc (by kernel_rfl) (by kernel_rfl) (by kernel_rfl) ?_
        repeat (first | walk_at "mE" | walk_at "mGet")
        refine ce_cell (by kernel_rfl) (List.mem_append_right _ hoc3) hoc (by kernel_rfl) (by kernel_rfl) (by kernel_rfl) ?_
        repeat (first | walk_at "mE" | walk_at "mGet")
        refine ce_local (List.mem_append_left _ (.head _)) hno2 .here (by kernel_rfl) (by kernel_rfl) (by kernel_rfl) ?_
        repeat walk_at "mE"
        refine mk_Piece k ar' (by decide) fun y I4 hs4 iy => ?_
        refine hRy.go ⟨oC2, _, rfl, ⟨_, hno2⟩, rfl, fun p hp => hs4 (hsub hp), ?_⟩
        have e : (prsOf b).take (j + 1) = (prsOf b).take j ++ [q] := by rw [List.take_add_one, hq]; rfl
        rw [e, List.map_append]
        refine (hys.imp fun _ _ => PcIs.mono hs4).append (.cons ⟨y, _, _, _, _, _, rfl, iy, _, rfl⟩ .nil)
      · rintro ys M3 I3 D oD ⟨rfl, hsub, hys⟩ hlo
        rw [hvs.length, List.take_length, ← hn] at hys
        repeat walk_at "mE"
        exact .shed (.drop (.tail .head)) (.of ⟨fun p hp => hsub (hs (.tail _ hp)), _, _, _, rfl, rfl, hlo, hys⟩)
end




/-! list.extend -/
theorem ext_two (l : Addr) (items : Array Value) (n : Nat) (d : Option Addr) (sl : Array (Option Value)) (b : Addr) (items2 : Array Value) (n2 : Nat) (d2 : Option Addr) (sl2 : Array (Option Value)) (hc0 : ¬(!items.isEmpty && Builtin.List.listTooLong (items.size + items2.size)) = true) (hc1 : items.size ≤ sizeLine) (hs2 : items.size + items2.size ≤ sizeLine + 1) :
    Meets (Builtin.«list.extend» ⟨[.ref l, .ref b], []⟩) (fun _ R s => s.heap.get? l = some { cls := .type "list", dict := d, data := .seq items n, slots := sl } ∧ s.heap.get? b = some { cls := .type "list", dict := d2, data := .seq items2 n2, slots := sl2 } ∧ R (.ok (.ret Value.none)) { s with heap := s.heap.update l (Obj.mapSeq fun x => x ++ items2), toks := s.toks }) :=
  .of_wp fun prog w A R s h => by
    obtain ⟨hp, g, d, tk, os⟩ := s; obtain ⟨hl, hb, h⟩ := h; have f1 := AutoSeq1.idx_int; have f2 := AutoSeq1.sub_tuple_tuple; have f3 := AutoSeq1.sub_list_list; have f4 := AutoSeq1.sub_tuple_list; have f5 := AutoSeq1.sub_list_tuple;
    have hz' : (items ++ items2).size ≤ sizeLine + 1 := by rw [Array.size_append]; exact hs2
    wp_walk using (wpAny_updateSeq hl rfl (hz := hc1) (_hz' := hz')), AutoSeq1.wpAny_loadPart' hl, AutoSeq1.wpAny_loadPart' hb; exact ⟨_, rfl, h⟩
section
variable {c : Wc} {f : Fc} {A : Around} {m : Loc} {M I : Led} {E : Value → Shared → Prop}
/-! lists of nothing but their items -/
def LP (vs : List Value) (o : Obj) : Prop := ∃ n, o = listOf vs.toArray n
theorem LP.lo {vs : List Value} {o : Obj} (h : LP vs o) : LO vs o := let ⟨n, e⟩ := h; e ▸ LO.of vs n
theorem p_newList {vs : List Value} {Q : Value → Led → Led → Prop} (hz : vs.length ≤ sizeLine) (h : ∀ a o, LP vs o → Q (.ref a) ((a, o) :: M) I) : Te c f A m M I (newList vs) Q E := .mk fun s ⟨g, L⟩ =>
  newList_N L.F L.N (fun h' F' N' => ⟨_, _, _, I, rfl, ⟨g, ⟨L.B, F', L.X, N', L.T, (L.pushM (listOf vs.toArray 0)).ap, L.kd⟩⟩, h _ _ ⟨0, rfl⟩⟩) hz
theorem p_append {l : Addr} {o : Obj} {vs : List Value} {x : Value} {M' : Obj → Led} {Q : Value → Led → Led → Prop} (U : ∀ o', Up l o o' M (M' o')) (hl : LP vs o) (hz : vs.length ≤ sizeLine) (h : ∀ o', LP (vs ++ [x]) o' → Q .none (M' o') I) :
    Te c f A m M I (call (.builtin "list.append") [.ref l, x]) Q E := .mk fun s L => by
  obtain ⟨n, rfl⟩ := hl
  refine wpAny_list_append_plain ⟨n, L.gM (U (listOf vs.toArray n)).mem⟩ (fun h' hl' hs' => ?_) (by simpa using hz)
  have e : vs.toArray.push x = (vs ++ [x]).toArray := by simp
  rw [e] at hl'
  obtain ⟨n', ho'⟩ := hl'
  exact ⟨h', _, M' _, I, rfl, L.up (U _) hs' ho', h _ ⟨n', rfl⟩⟩
theorem p_extend {l b : Addr} {o ob : Obj} {vs ws : List Value} {M' M2 : Obj → Led} {Q : Value → Led → Led → Prop} (U : ∀ o', Up l o o' M (M' o')) (S : ∀ o', Shed (M' o') I (M2 o') I) (hl : LP vs o) (hb : (b, ob) ∈ M ++ I) (hlb : LO ws ob) (hz : vs.length + ws.length ≤ sizeLine) (h : ∀ o', LP (vs ++ ws) o' → Q .none (M2 o') I) :
    Te c f A m M I (call (.builtin "list.extend") [.ref l, .ref b]) Q E := .mk fun s ⟨g, L⟩ => by
  obtain ⟨n, rfl⟩ := hl
  obtain ⟨d2, sl2, n2, rfl⟩ := hlb.pure
  have hm := L.gM (U (listOf vs.toArray n)).mem
  have hz' : vs.toArray.size + ws.toArray.size ≤ sizeLine := by simpa using hz
  refine call_meets PySem.F.slot_list_extend ⟨_, hm, rfl⟩ PySem.F.entry_list_extend (PySem.F.args_list_extend_2 _ _) (ext_two l vs.toArray n none #[] b ws.toArray n2 d2 sl2 (extend_door hz') (Nat.le_trans (Nat.le_add_right _ _) hz') (Nat.le_succ_of_le hz')) ⟨hm, L.g hb, ?_⟩
  have e : vs.toArray ++ ws.toArray = (vs ++ ws).toArray := by simp
  have ho' := Heap.get?_update_self (Obj.mapSeq fun x => x ++ ws.toArray) hm rfl
  rw [mapSeq_app, e] at ho'
  have L2 := L.up (U _) (Heap.SameBut.update s.heap l (Obj.mapSeq fun x => x ++ ws.toArray)) ho'
  exact ⟨_, _, _, I, rfl, S _ _ _ _ _ ⟨g, L2⟩, h _ ⟨_, rfl⟩⟩
theorem gm_list {l : Addr} {o : Obj} {vs : List Value} {name : Str} {id : String} {pl : Sem Bool} {Q : Value × List Value → Led → Led → Prop} (hm : (l, o) ∈ M ++ I) (hl : LP vs o) (slot : Slot "list" name id) (hty : typeOf (.builtin id) = pure (.type "method_descriptor")) (h : Q (.builtin id, [.ref l]) M I) :
    Te c f A m M I (getMethod (.ref l) name pl) Q E := by
  obtain ⟨n, rfl⟩ := hl
  exact Te.here (v := (.builtin id, [.ref l])) (fun s R L r => getMethod_builtin ⟨_, L.g hm, rfl⟩ PySem.F.plainAttrs_list slot hty (fun a e => by cases e; exact ⟨_, L.g hm, rfl⟩) (r s.toks)) h
def allOf (ps : List Pc) : List Pc := ps.flatMap fun p => p :: packOf p
theorem all_step {ps : List Pc} {i : Nat} {p : Pc} (h : ps[i]? = some p) : allOf (ps.take (i + 1)) = allOf (ps.take i) ++ [p] ++ packOf p := by
  have e : ps.take (i + 1) = ps.take i ++ [p] := by rw [List.take_add_one, h]; rfl
  unfold allOf
  rw [e, List.flatMap_append]
  simp
theorem prs_len (b : List UInt8) : (prsOf b).length ≤ b.length := by
  unfold prsOf
  rw [List.length_map]
  exact Nat.le_trans (List.length_filter_le _ _) (by rw [List.length_map]; exact Nat.le_refl _)
theorem pack_len (p : Pc) (h : octOk p.val = true) : (packOf p).length ≤ 10 := by
  unfold packOf
  cases hv : p.val with
  | stm kvs b =>
    rw [hv] at h
    have hb : b.length ≤ 10 := of_decide_eq_true h
    dsimp only
    split
    · rw [List.length_map]; exact Nat.le_trans (prs_len b) hb
    · simp
  | num n => simp
  | dic kvs => simp
theorem all_len : ∀ (ps : List Pc), (∀ p ∈ ps, octOk p.val = true) → (allOf ps).length ≤ 11 * ps.length
  | [], _ => by simp [allOf]
  | p :: ps, h => by
    have h1 := all_len ps fun q hq => h q (List.mem_cons_of_mem _ hq)
    have h2 := pack_len p (h p (List.mem_cons_self ..))
    have e : allOf (p :: ps) = (p :: packOf p) ++ allOf ps := rfl
    rw [e, List.length_append, List.length_cons, List.length_cons]
    omega
theorem fn_all (k : KF c.K) (X : XF c.K) {sh l : Addr} {tb tr : Value} {ol : Obj} {ps : List Pc} {pvs : List Value} (i : ShI c I tb tr sh) (hm : (l, ol) ∈ I) (hl : LO pvs ol) (hp : PcsIs c I ps pvs) (hb : ∀ p ∈ ps, octOk p.val = true) (hn : ps.length ≤ 5) :
    Fn c 85 (.ref 470) [.ref sh, .ref l, .ref 529] M I (fun r M1 I1 => I ⊆ I1 ∧ ∃ l ol vs, r = .ref l ∧ M1 = (l, ol) :: M ∧ LO vs ol ∧ PcsIs c I1 (allOf ps) vs) := by
  refine .mk fun f A m E ar => .post ?_
  refine enter (binds := [("shelf", .ref sh), ("pieces", .ref l), ("read", .ref 529)]) (loc := [("read", .ref 529), ("pieces", .ref l), ("shelf", .ref sh)]) rfl k.f_all_pieces ar (by decide) (by intros; kernel_rfl) (locs (by kernel_rfl)) (by decide +kernel) (by kernel_rfl) (by kernel_rfl) (by kernel_rfl) fun q A' R ar' hR => ?_
  refine s_cons ?_
  repeat walk_at "mE"
  refine p_newList (Nat.zero_le _) fun fl ofl hfl => ?_
  repeat walk_at "mE"
  refine s_for ?_ (fun _ => by kernel_rfl)
  repeat (first | walk_at "mE" | walk_at "mGet")
  refine p_list (List.mem_append_right _ hm) hl ar'.hd fun it o O Wl h0 => ?_
  refine ⟨it, o, _, _, _, O, _, fun j m' M' I' => Look "found" (.ref fl) m' ∧ Look "read" (.ref 529) m' ∧ Look "shelf" (.ref sh) m' ∧ I ⊆ I' ∧ ∃ of vs, M' = (fl, of) :: M ∧ LP vs of ∧ PcsIs c I' (allOf (ps.take j)) vs, rfl, rfl, Wl _ _, h0,
    ⟨.here, .there (by decide +kernel) .here, .there (by decide +kernel) (.there (by decide +kernel) (.there (by decide +kernel) .here)), fun p hp => hp, _, _, rfl, hfl, .nil⟩, ?_, ?_, ?_⟩
  · rintro j m' M' I' ⟨_, _, _, hs, of, vs, rfl, _⟩
    exact src1 (List.mem_append_right _ (hs hm))
  · rintro j m' M' I' v o' hj hv ⟨k1, k2, k3, hs, of, vs, rfl, hof, hvs⟩
    obtain ⟨p, hpi, hpv⟩ := hp.at hv
    have i' := i.mono hs
    have hpv' := hpv.mono hs
    have hbp := hb p (List.mem_of_getElem? hpi)
    have hz : vs.length ≤ 60 := by
      rw [hvs.length]
      have h1 := all_len (ps.take j) fun q hq => hb q (List.mem_of_mem_take hq)
      have h2 : (ps.take j).length ≤ ps.length := List.length_take_le' _ _
      omega
    repeat walk_at "mE"
    refine gm_list (List.mem_append_left _ (.tail _ (.head _))) hof PySem.F.slot_list_append PySem.F.type_list_append ?_
    repeat walk_at "mE"
    refine p_append (M' := fun o2 => (it, o') :: (fl, o2) :: M) (fun _ => .tail .head) hof (line_of (by omega)) fun of1 hof1 => ?_
    repeat walk_at "mE"
    refine gm_list (List.mem_append_left _ (.tail _ (.head _))) hof1 PySem.F.slot_list_extend PySem.F.type_list_extend ?_
    repeat walk_at "mE"
    refine (fn_packed k X i' hpv' hbp).te ar' (by decide) (by decide) fun r M1 I1 ⟨hs1, pl, opl, ws, e1, e2, hpl, hws⟩ => ?_
    subst e1 e2
    repeat walk_at "mE"
    refine p_extend (M' := fun o2 => (pl, opl) :: (it, o') :: (fl, o2) :: M) (M2 := fun o2 => (it, o') :: (fl, o2) :: M) (fun _ => .tail (.tail .head)) (fun _ => .drop .head) hof1 (List.mem_append_left _ (.head _)) hpl (line_of (by
      have h1 := pack_len p hbp
      have h2 := hws.length
      rw [List.length_append, List.length_singleton]
      omega)) fun of2 hof2 => ?_
    repeat walk_at "mE"
    refine ⟨_, rfl, .there (by decide +kernel) k1, .there (by decide +kernel) k2, .there (by decide +kernel) k3, fun p hp => hs1 (hs hp), of2, _, rfl, hof2, ?_⟩
    rw [all_step hpi]
    exact ((hvs.mono hs1).append (.cons (hpv'.mono hs1) .nil)).append hws
  · rintro m' M' I' ⟨k1, k2, k3, hs, of, vs, rfl, hof, hvs⟩
    rw [hp.length, List.take_length] at hvs
    repeat walk_at "mE"
    exact .of ⟨hs, _, _, _, rfl, rfl, hof.lo, hvs⟩
end




section
variable {c : Wc} {f : Fc} {A : Around} {m : Loc} {M I : Led} {E : Value → Shared → Prop}
theorem lf_join (n : Nat) : lfAt (joinK n) "Root" = none := by
  unfold joinK
  split <;> rfl
theorem fn_shelf_from (k : KF c.K) {sh wk pl tl l : Addr} {tb tr : Value} {opl otl ol : Obj} {ps qs : List Pc} {pvs vs qvs : List Value} (i : ShI c I tb tr sh) (iw : Inst c I 440 [("pieces", .ref pl), ("trailers", .ref tl)] wk)
    (hmp : (pl, opl) ∈ I) (hlp : LO pvs opl) (hp : PcsIs c I ps pvs) (hnx : ∀ p ∈ ps, isCross p.val = false) (hmt : (tl, otl) ∈ I) (hlt : LO vs otl) (h1 : vs.length ≤ 1) (ht : ∀ v ∈ vs, TrIs c I v)
    (hm : (l, ol) ∈ I) (hl : LO qvs ol) (hq : PcsIs c I qs qvs) (hnc : ∀ p ∈ qs, NoCat p.val) (hz : (tableOf qs).length < 64) (hqs : qs.length ≤ 100) :
    Fn c 86 (.ref 496) [.ref sh, .ref wk, .ref l] M I (fun r M1 I1 => I ⊆ I1 ∧ ∃ s t2 o2 d2 kvs, r = .ref s ∧ M1 = (t2, o2) :: M ∧ ShI c I1 (.ref t2) (.ref d2) s ∧ DicIs c I1 (joinK vs.length) d2 ∧ DI c t2 kvs o2 ∧ TbIs c I1 (dropT (tableOf qs)) kvs) := by
  refine .mk fun f A m E ar => .post ?_
  refine enter (binds := [("plain", .ref sh), ("walk", .ref wk), ("pieces", .ref l)]) (loc := [("pieces", .ref l), ("walk", .ref wk), ("plain", .ref sh)]) rfl k.f_shelf_from ar (by decide) (by intros; kernel_rfl) (locs (by kernel_rfl)) (by decide +kernel) (by kernel_rfl) (by kernel_rfl) (by kernel_rfl) fun q A' R ar' hR => ?_
  refine s_cons ?_
  repeat walk_at "mE"
  refine (fn_table_of k hm hl hq hqs).te ar' (by decide) (by decide) fun r M1 I1 ⟨s1, t2, ot, kvs, e1, e2, hd, htb⟩ => ?_
  subst e1 e2
  repeat walk_at "mE"
  refine (fn_trailers_of k (i.mono s1) (iw.mono s1) (s1 hmp) hlp (hp.mono s1) hnx (s1 hmt) hlt h1 (fun v hv => by obtain ⟨a1, a2, a3, a4, b1, b2, b3, b4⟩ := ht v hv; exact ⟨a1, a2, a3, a4, b1, s1 b2, b3, b4.mono s1⟩)).te ar' (by decide) (by decide) fun r M2 I2 ⟨e1, l2, ol2, us, e2, e3, hl2, hul, hus⟩ => ?_
  subst e1 e2 e3
  repeat walk_at "mE"
  refine (fn_joined k (List.mem_append_left _ (.head _)) hl2 (by omega) hus).te ar' (by decide) (by decide) fun r M3 I3 ⟨e1, d2, od2, dkv, e2, e3, hds, hdk⟩ => ?_
  subst e1 e2 e3
  rw [hul] at hdk
  refine .freeze .head ?_
  refine .shed (.drop .head) ?_
  repeat walk_at "mE"
  have s3 : I3 ⊆ (d2, od2) :: I3 := fun p hp => .tail _ hp
  refine mk_Shelf2 k ar' (by decide) fun s I4 s4 ish => ?_
  have s5 : I ⊆ I4 := fun p hp => s4 (s3 (s1 hp))
  have hD : DicIs c I4 (joinK vs.length) d2 := ⟨od2, dkv, s4 (.head _), hds, hdk.mono fun p hp => s4 (s3 hp)⟩
  repeat walk_at "mE"
  refine ish.meth k.pm_Shelf_root k.fm_Shelf_root (k.fn (by decide +kernel)) rfl ?_
  repeat walk_at "mE"
  refine (fn_root k ish hD (lf_join _)).te ar' (by decide) (by decide) fun r M5 I5 ⟨e1, ra, ro, e2, e3, hra⟩ => ?_
  subst e1 e2 e3
  repeat walk_at "mE"
  refine d_new fun na no hno _ => ?_
  refine c_eqdicts (List.mem_append_left _ (.tail _ (.head _))) (List.mem_append_left _ (.head _)) hra hno (by have := ar'.un; show _ < 9900; omega) ?_
  refine .shed (.trans (.drop .head) (.drop .head)) ?_
  repeat walk_at "mE"
  refine (fn_last_catalog k ish (List.mem_append_left _ (.head _)) hd (s5 hm) hl (hq.mono s5) hqs hnc).te ar' (by decide) (by decide) fun r M6 I6 ⟨e1, e2, e3⟩ => ?_
  subst e1 e2 e3
  repeat walk_at "mE"
  refine (fn_drop_files k (M' := fun o' => (t2, o') :: M) ish (fun _ _ => .head) hd (htb.mono fun p hp => s4 (s3 hp)) (by rw [htb.length]; exact hz)).te ar' (by decide) (by decide) fun r M7 I7 ⟨e1, o7, kv7, e2, hd7, ht7⟩ => ?_
  subst e1 e2
  repeat walk_at "mE"
  exact .of ⟨s5, s, t2, o7, d2, kv7, rfl, rfl, ish, hD, hd7, ht7⟩
end




section
variable {c : Wc} {f : Fc} {A : Around} {m : Loc} {M I : Led} {E : Value → Shared → Prop}
structure OkPs (ps : List Pc) : Prop where
  len : ps.length ≤ 5
  oct : ∀ p ∈ ps, octOk p.val = true
  nx : ∀ p ∈ ps, isCross p.val = false
  nc : ∀ p ∈ allOf ps, NoCat p.val
  tz : (tableOf (allOf ps)).length < 64
  good : ∀ p ∈ dropT (tableOf (allOf ps)), GoodV p.2.val
theorem fn_mended (k : KF c.K) (X : XF c.K) {wk pl tl : Addr} {opl otl : Obj} {ps : List Pc} {pvs vs : List Value} (iw : Inst c I 440 [("pieces", .ref pl), ("trailers", .ref tl)] wk)
    (hmp : (pl, opl) ∈ I) (hlp : LO pvs opl) (hp : PcsIs c I ps pvs) (ok : OkPs ps) (hmt : (tl, otl) ∈ I) (hlt : LO vs otl) (h1 : vs.length ≤ 1) (ht : ∀ v ∈ vs, TrIs c I v) :
    Fn c 84 (.ref 517) [.ref wk, .ref 529] M I (fun r M1 I1 => M1 = M ∧ I ⊆ I1 ∧ ∃ s t2 o2 d2 kvs, r = .ref s ∧ ShI c I1 (.ref t2) (.ref d2) s ∧ DicIs c I1 (joinK vs.length) d2 ∧ (t2, o2) ∈ I1 ∧ DI c t2 kvs o2 ∧ TbIs c I1 (lenT (dropT (tableOf (allOf ps)))) kvs) := by
  refine .mk fun f A m E ar => .post ?_
  refine enter (binds := [("walk", .ref wk), ("read", .ref 529)]) (loc := [("read", .ref 529), ("walk", .ref wk)]) rfl k.f_mended_by ar (by decide) (by intros; kernel_rfl) (locs (by kernel_rfl)) (by decide +kernel) (by kernel_rfl) (by kernel_rfl) (by kernel_rfl) fun q A' R ar' hR => ?_
  have hz5 := ok.len
  refine s_cons ?_
  repeat (first | walk_at "mE" | walk_at "mGet")
  refine (fn_table_of k hmp hlp hp (by omega)).te ar' (by decide) (by decide) fun r M1 I1 ⟨s1, t1, ot1, kv1, e1, e2, hd1, htb1⟩ => ?_
  subst e1 e2
  refine .shed (.drop .head) ?_
  repeat walk_at "mE"
  refine mk_Shelf1 k ar' (by decide) fun sh tr I2 s2 ish htr => ?_
  have s3 : I ⊆ I2 := fun p hp => s2 (s1 hp)
  have iw3 := iw.mono s3
  repeat (first | walk_at "mE" | walk_at "mGet")
  refine (fn_all k X ish (s3 hmp) hlp (hp.mono s3) ok.oct ok.len).te ar' (by decide) (by decide) fun r M3 I3 ⟨s4, ql, oql, qvs, e1, e2, hql, hq⟩ => ?_
  subst e1 e2
  refine .freeze .head ?_
  have s5 : I3 ⊆ (ql, oql) :: I3 := fun p hp => .tail _ hp
  have s6 : I ⊆ (ql, oql) :: I3 := fun p hp => s5 (s4 (s3 hp))
  have hqn : (allOf ps).length ≤ 100 := by have := all_len ps ok.oct; omega
  repeat walk_at "mE"
  refine (fn_shelf_from k (ish.mono fun p hp => s5 (s4 hp)) (iw.mono s6) (s6 hmp) hlp (hp.mono s6) ok.nx (s6 hmt) hlt h1 (fun v hv => by obtain ⟨a1, a2, a3, a4, b1, b2, b3, b4⟩ := ht v hv; exact ⟨a1, a2, a3, a4, b1, s6 b2, b3, b4.mono s6⟩) (.head _) hql (hq.mono s5) ok.nc ok.tz hqn).te ar' (by decide) (by decide) fun r M4 I4 ⟨s7, s, t2, o2, d2, kv2, e1, e2, is2, hD2, hd2, ht2⟩ => ?_
  subst e1 e2
  refine .freeze .head ?_
  have s8 : I4 ⊆ (t2, o2) :: I4 := fun p hp => .tail _ hp
  repeat walk_at "mE"
  refine (fn_with_true k (is2.mono s8) (.head _) hd2 (ht2.mono s8) ok.good (by
    have h1 : (dropT (tableOf (allOf ps))).length ≤ (tableOf (allOf ps)).length := List.length_filter_le _ _
    have := ok.tz
    omega)).te ar' (by decide) (by decide) fun r M5 I5 ⟨e1, s9, s', t3, o3, kv3, e2, is3, hm3, hd3, ht3⟩ => ?_
  subst e1 e2
  repeat walk_at "mE"
  exact .of ⟨rfl, fun p hp => s9 (s8 (s7 (s6 hp))), s', t3, o3, d2, kv3, rfl, is3, hD2.mono fun p hp => s9 (s8 hp), hm3, hd3, ht3⟩
end




/-! one order of numbers -/
def ordN (ks : List Nat) : List Nat := (List.range 64).filter fun n => decide (n ∈ ks)
theorem sorted_ext : ∀ {l1 l2 : List Int}, l1.Pairwise (· < ·) → l2.Pairwise (· < ·) → (∀ x, x ∈ l1 ↔ x ∈ l2) → l1 = l2
  | [], [], _, _, _ => rfl
  | [], b :: r, _, _, h => absurd ((h b).mpr (List.mem_cons_self ..)) (by simp)
  | a :: r, [], _, _, h => absurd ((h a).mp (List.mem_cons_self ..)) (by simp)
  | a :: r, b :: r', h1, h2, h => by
    rw [List.pairwise_cons] at h1 h2
    have e : a = b := by
      rcases List.mem_cons.mp ((h a).mp (List.mem_cons_self ..)) with e | ha
      · exact e
      · rcases List.mem_cons.mp ((h b).mpr (List.mem_cons_self ..)) with e | hb
        · exact e.symm
        · have := h1.1 b hb
          have := h2.1 a ha
          omega
    subst e
    congr 1
    refine sorted_ext h1.2 h2.2 fun x => ⟨fun hx => ?_, fun hx => ?_⟩
    · rcases List.mem_cons.mp ((h x).mp (List.mem_cons_of_mem _ hx)) with e | h'
      · have := h1.1 x hx; omega
      · exact h'
    · rcases List.mem_cons.mp ((h x).mpr (List.mem_cons_of_mem _ hx)) with e | h'
      · have := h2.1 x hx; omega
      · exact h'
theorem ord_eq {ks : List Nat} (hn : ks.Nodup) (hlt : ∀ k ∈ ks, k < 64) {ns : List Int} (hp : ns.Perm (ks.map fun (k : Nat) => (k : Int))) (hs : ns.Pairwise (· ≤ ·)) : ns = (ordN ks).map fun (k : Nat) => (k : Int) := by
  have hnn : ns.Nodup := hp.nodup_iff.mpr (by
    rw [List.Nodup, List.pairwise_map]
    exact List.Pairwise.imp (fun h e => h (by omega)) hn)
  refine sorted_ext ?_ ?_ fun x => ?_
  · have := List.Pairwise.and hs hnn
    exact this.imp fun ⟨h1, h2⟩ => by omega
  · rw [List.pairwise_map]
    exact List.Pairwise.imp (fun h => by omega) (List.Pairwise.sublist List.filter_sublist List.pairwise_lt_range)
  · rw [hp.mem_iff, List.mem_map, List.mem_map]
    constructor
    · rintro ⟨k, hk, rfl⟩
      exact ⟨k, by unfold ordN; rw [List.mem_filter]; exact ⟨List.mem_range.mpr (hlt k hk), by simpa using hk⟩, rfl⟩
    · rintro ⟨k, hk, rfl⟩
      unfold ordN at hk
      rw [List.mem_filter] at hk
      exact ⟨k, by simpa using hk.2, rfl⟩
def rowT (T : Tab) (n : Nat) : Tr := .tup [.int n, .int (match get T n with | some e => e.gen | none => 0), match get T n with | some e => tlV e.val | none => .int 0]
def tellT (T : Tab) : Tr := .tup ((ordN (T.map (·.1))).map (rowT T))
section
variable {c : Wc} {f : Fc} {A : Around} {m : Loc} {M I : Led} {E : Value → Shared → Prop}
theorem get_mem {α : Type} {T : List (Nat × α)} {n : Nat} {e : α} (h : get T n = some e) : (n, e) ∈ T := by
  unfold get at h
  obtain ⟨p, hp, rfl⟩ := Option.map_eq_some_iff.mp h
  have h1 := List.mem_of_find?_eq_some hp
  have h2 := List.find?_some hp
  have : p.1 = n := by simpa using h2
  subst this
  exact h1
theorem fn_told_shelf (k : KF c.K) {s t2 d2 : Addr} {o2 : Obj} {T : Tab} {kvs : List (Int × Value)} {D : List (Str × Lf)} (i : ShI c I (.ref t2) (.ref d2) s) (hm : (t2, o2) ∈ I) (hd : DI c t2 kvs o2) (ht : TbIs c I T kvs) (hD : DicIs c I D d2) (hg : GoodK D)
    (hv : ∀ p ∈ T, GoodV p.2.val) (hn : (T.map (·.1)).Nodup) (hlt : ∀ k ∈ T.map (·.1), k < 64) (hz : T.length < 64) :
    Fn c 86 (.ref 360) [.ref s] M I (fun r M1 I1 => M1 = M ∧ I ⊆ I1 ∧ TIs I1 (.tup [tellT T, tlDic (ordS (D.map (·.1))) D]) r) := by
  refine .mk fun f A m E ar => .post ?_
  refine enterP (binds := [("self", .ref s)]) (loc := []) (n := "self") (v := .ref s) k.f_Shelf_told ar (by decide) (by intros; kernel_rfl) (by kernel_rfl) (fun _ => by kernel_rfl) (by kernel_rfl) (by kernel_rfl) (by kernel_rfl) (by kernel_rfl) (by kernel_rfl) fun L q A' R ar' hR o ho => ?_
  have s0 : I ⊆ (L, o) :: I := fun p hp => .tail _ hp
  have i1 := i.mono s0
  refine s_cons ?_
  repeat walk_at "mE"
  refine e_comp (cl := [("self", L)]) (by kernel_rfl) (by decide +kernel) (by kernel_rfl) (by decide +kernel) (fun _ => by kernel_rfl) ?_
  repeat walk_at "mE"
  refine e_cell (by kernel_rfl) (.head _) ho (by kernel_rfl) (by kernel_rfl) ?_
  repeat walk_at "mE"
  refine i1.meth k.pm_Shelf_numbers k.fm_Shelf_numbers (k.fn (by decide +kernel)) rfl ?_
  repeat walk_at "mE"
  refine (fn_numbers k i1 (List.mem_append_right _ (s0 hm)) hd (by rw [ht.length]; exact hz)).te ar' (by decide) (by decide) fun r M1 I1 ⟨e1, a, oa, vs, ns, e2, e3, hoa, hvs, hp, hs⟩ => ?_
  subst e1 e2 e3
  have hns : ns = (ordN (T.map (·.1))).map fun (k : Nat) => (k : Int) := ord_eq hn hlt (by rw [List.map_map]; rw [ht.keys] at hp; exact hp) hs
  have hlen : vs.length ≤ 64 := by
    rw [hvs.length, hp.length_eq, List.length_map, ht.length]; omega
  repeat walk_at "mE"
  refine p_list (List.mem_append_left _ (.head _)) hoa ar'.hd fun it oi O Wl h0 => ?_
  refine ⟨it, oi, _, _, _, O, _, fun j ys M3 I3 => M3 = (a, oa) :: M ∧ (L, o) :: I ⊆ I3 ∧ TIss I3 (((ordN (T.map (·.1))).take j).map (rowT T)) ys, rfl, rfl, Wl _ _, h0, ⟨rfl, fun p hp => hp, .nil⟩, line_of (by omega), ?_, ?_, ?_⟩
  · rintro j ys M3 I3 ⟨rfl, _, _⟩
    exact src1 (.head _)
  · rintro j ys M3 I3 v o' C oC D' oD lm hj hvj ⟨rfl, hsub, hts⟩ hno hlo Ry Rn hRy hRn
    obtain ⟨n', t, hn', rfl⟩ := ints_at' hvs hvj
    rw [hns, List.getElem?_map] at hn'
    obtain ⟨q, hq, rfl⟩ := Option.map_eq_some_iff.mp hn'
    have hqT : q ∈ T.map (·.1) := by
      have := List.mem_of_getElem? hq
      unfold ordN at this
      rw [List.mem_filter] at this
      simpa using this.2
    have ht3 : TbIs c I3 T kvs := ht.mono fun p hp => hsub (s0 hp)
    obtain ⟨e, v', he, hv', a1, oa1, v1, t1, rfl, hma, hoa1, hvl⟩ : ∃ e v', get T q = some e ∧ valueAt kvs (q : Int) = some v' ∧ EntIs c I3 e v' := by
      rcases ht3.at q with ⟨h1, _⟩ | h1
      · obtain ⟨e0, h2, _⟩ := get_some hqT
        rw [h1] at h2; cases h2
      · exact h1
    have hgv : GoodV e.val := hv _ (get_mem he)
    have i3 := i1.mono hsub
    have hm3 : (t2, o2) ∈ I3 := hsub (s0 hm)
    have ho3 : (L, o) ∈ I3 := hsub (.head _)
    refine as_name ?_
    refine cn_local (fun o' => .head) hno (by kernel_rfl) (by kernel_rfl) fun oC1 hno1 => ⟨rfl, ?_⟩
    refine tt_nil ?_
    refine ite_t ?_
    repeat walk_at "mE"
    refine ce_local (List.mem_append_left _ (.head _)) hno1 .here (by kernel_rfl) (by kernel_rfl) (by kernel_rfl) ?_
    repeat walk_at "mE"
    refine ce_cell (by kernel_rfl) (List.mem_append_right _ ho3) ho (by kernel_rfl) (by kernel_rfl) (by kernel_rfl) ?_
    repeat (first | walk_at "mE" | walk_at "mGet")
    refine ce_local (List.mem_append_left _ (.head _)) hno1 .here (by kernel_rfl) (by kernel_rfl) (by kernel_rfl) ?_
    repeat walk_at "mE"
    refine d_item (List.mem_append_right _ hm3) hd (intKind_is _ _ _ _) hv' (by kernel_rfl) ?_
    repeat walk_at "mE"
    refine i_tuple (List.mem_append_right _ hma) hoa1 (by decide) (by decide) rfl (by kernel_rfl) ?_
    repeat walk_at "mE"
    refine ce_cell (by kernel_rfl) (List.mem_append_right _ ho3) ho (by kernel_rfl) (by kernel_rfl) (by kernel_rfl) ?_
    repeat (first | walk_at "mE" | walk_at "mGet")
    refine ce_local (List.mem_append_left _ (.head _)) hno1 .here (by kernel_rfl) (by kernel_rfl) (by kernel_rfl) ?_
    repeat walk_at "mE"
    refine d_item (List.mem_append_right _ hm3) hd (intKind_is _ _ _ _) hv' (by kernel_rfl) ?_
    repeat walk_at "mE"
    refine i_tuple (List.mem_append_right _ hma) hoa1 (by decide) (by decide) rfl (by kernel_rfl) ?_
    repeat walk_at "mE"
    refine (told_vl k hvl hgv).te ar' (by decide) (by decide) fun r M4 I4 ⟨e1, e2, e3⟩ => ?_
    subst e1
    repeat walk_at "mE"
    refine n_tuple (Nat.le_of_ble_eq_true rfl) fun t5 o5 h5 => ?_
    refine hRy.go ⟨oC1, _, rfl, ⟨_, hno1⟩, rfl, fun p hp => .tail _ (e2 (hsub hp)), ?_⟩
    rw [List.take_add_one, hq, List.map_append]
    refine (hts.mono fun p hp => .tail _ (e2 hp)).snoc ?_
    unfold rowT
    rw [he]
    exact .tup (.head _) h5 (.cons .int (.cons .int (.cons (e3.mono fun p hp => .tail _ hp) .nil)))
  · rintro ys M3 I3 D' oD ⟨rfl, hsub, hts⟩ hlo
    have hvl : vs.length = (ordN (T.map (·.1))).length := by rw [hvs.length, hns, List.length_map]
    rw [hvl, List.take_length] at hts
    repeat walk_at "mE"
    refine t_of (List.mem_append_left _ (.head _)) hlo (line_of (by rw [hts.length, List.length_map]; omega)) fun t5 o5 h5 => ?_
    refine .shed (.trans (.drop .head) (.drop .head)) ?_
    repeat walk_at "mE"
    have ho3 : (L, o) ∈ (t5, o5) :: I3 := .tail _ (hsub (.head _))
    have i5 := i1.mono (I' := (t5, o5) :: I3) fun p hp => .tail _ (hsub hp)
    refine e_cell (by kernel_rfl) ho3 ho (by kernel_rfl) (by kernel_rfl) ?_
    repeat (first | walk_at "mE" | walk_at "mGet")
    refine (told_dic k (hD.mono fun p hp => .tail _ (hsub (s0 hp))) hg).te ar' (by decide) (by decide) fun r M6 I6 ⟨e1, e2, e3⟩ => ?_
    subst e1
    repeat walk_at "mE"
    refine n_tuple (Nat.le_of_ble_eq_true rfl) fun t7 o7 h7 => ?_
    repeat walk_at "mE"
    refine .of ⟨rfl, fun p hp => .tail _ (e2 (.tail _ (hsub (s0 hp)))), .tup (.head _) h7 (.cons (.tup (.tail _ (e2 (.head _))) h5 (hts.mono fun p hp => .tail _ (e2 (.tail _ hp)))) (.cons (e3.mono fun p hp => .tail _ hp) .nil))⟩
end




/-- what the law's draw of a value yields -/
def LawV (l : Vl) : Prop := (∃ n, l = .num n) ∨ (∃ n, l = .dic [("K", .num n)]) ∨
  (∃ (n : Int) (b : List UInt8), b.length ≤ 3 ∧ (∀ x ∈ b, x.toNat < 40) ∧ (n = b.length ∨ n = 77) ∧ l = .stm [("Type", .nm "ObjStm"), ("Length", .num n)] b) ∨
  (∃ (lf : Lf) (b : List UInt8), b.length ≤ 3 ∧ (lf = .num b.length ∨ lf = .num 2 ∨ lf = .nm "x") ∧ l = .stm [("Length", lf)] b)
theorem draw_lt (ns : List Int) (cc : Int) (spot : Nat) {many : Int} (h : 0 < many) : 0 ≤ drawN ns cc spot many ∧ drawN ns cc spot many < many := by
  unfold drawN
  split
  · exact ⟨Int.fmod_nonneg_of_pos _ h, Int.fmod_lt_of_pos _ h⟩
  · exact ⟨Int.fmod_nonneg_of_pos _ h, Int.fmod_lt_of_pos _ h⟩
theorem PenO.mono {I I' : Led} {ns : List Int} {cc : Int} {spot : Nat} {o : Obj} (hs : I ⊆ I') (h : PenO I ns cc spot o) : PenO I' ns cc spot o := let ⟨a, b, d, e, v, x, y, z, w⟩ := h; ⟨a, b, d, e, v, x, hs y, z, w⟩
section
variable {c : Wc} {f : Fc} {A : Around} {m : Loc} {M I : Led} {E : Value → Shared → Prop}
theorem c_eqi_t {a b : Int} {t u : Tok} {Q : Value → Led → Led → Prop} (e : (a == b) = true) (h : Q (.bool true) M I) : Te c f A m M I (compareOp .Eq (.int a t) (.int b u)) Q E := c_eq (by rw [e]; exact h)
theorem c_eqi_f {a b : Int} {t u : Tok} {Q : Value → Led → Led → Prop} (e : (a == b) = false) (h : Q (.bool false) M I) : Te c f A m M I (compareOp .Eq (.int a t) (.int b u)) Q E := c_eq (by rw [e]; exact h)
theorem fn_value (k : KF c.K) {pen : Addr} {op : Obj} {ns : List Int} {cc : Int} {spot : Nat} {M' : Obj → Led} (hp : PenO I ns cc spot op) (U : ∀ o o', Up pen o o' (M' o) (M' o')) (hs : spot < 900) (hn : ns.length < 1000) :
    Fn c 87 (.ref 534) [.ref pen] (M' op) I (fun v M1 I1 => I ⊆ I1 ∧ ∃ o' spot' l, M1 = M' o' ∧ spot' ≤ spot + 8 ∧ PenO I1 ns cc spot' o' ∧ VlIs c I1 l v ∧ LawV l) := by
  refine .mk fun f A m E ar => .post ?_
  refine enterP (binds := [("pen", .ref pen)]) (loc := []) (n := "pen") (v := .ref pen) k.f_law_value ar (by decide) (by intros; kernel_rfl) (by kernel_rfl) (fun _ => by kernel_rfl) (by kernel_rfl) (by kernel_rfl) (by kernel_rfl) (by kernel_rfl) (by kernel_rfl) fun L q A' R ar' hR oc hoc => ?_
  have s0 : I ⊆ (L, oc) :: I := fun p hp => .tail _ hp
  replace hp := hp.mono s0
  refine s_cons ?_
  repeat walk_at "mE"
  refine e_cell (by kernel_rfl) (.head _) hoc (by kernel_rfl) (by kernel_rfl) ?_
  repeat walk_at "mE"
  refine (fn_draw k (M' := M') hp (U _) (by decide) (by omega) hn).te ar' (by decide) (by decide) fun r M1 I1 ⟨e1, o1, e2, hp1, t1, e3⟩ => ?_
  obtain ⟨w0, w4⟩ := draw_lt ns cc spot (many := 4) (by decide)
  subst e1 e2 e3
  generalize drawN ns cc spot 4 = way at w0 w4 ⊢
  repeat walk_at "mE"
  have hw : way = 0 ∨ way = 1 ∨ way = 2 ∨ way = 3 := by omega
  rcases hw with rfl | rfl | rfl | rfl
  · refine c_eqi_t (by decide) ?_
    repeat walk_at "mE"
    refine e_cell (by kernel_rfl) (.head _) hoc (by kernel_rfl) (by kernel_rfl) ?_
    repeat walk_at "mE"
    refine (fn_draw k (M' := M') hp1 (U _) (by decide) (by omega) hn).te ar' (by decide) (by decide) fun r M1 I1 ⟨e1, o2, e2, hp2, t2, e3⟩ => ?_
    subst e1 e2 e3
    repeat walk_at "mE"
    exact .of ⟨s0, o2, _, .num (drawN ns cc (spot + 1) 90), rfl, by omega, hp2, ⟨t2, rfl⟩, .inl ⟨_, rfl⟩⟩
  · refine c_eqi_f (by decide) ?_
    repeat walk_at "mE"
    refine c_eqi_t (by decide) ?_
    repeat walk_at "mE"
    refine e_dict rfl rfl (by simp) (Nat.le_of_ble_eq_true rfl) fun d od hod => ?_
    refine ep_cons ?_
    repeat walk_at "mE"
    refine e_cell (by kernel_rfl) (.head _) hoc (by kernel_rfl) (by kernel_rfl) ?_
    repeat walk_at "mE"
    refine (fn_draw k (M' := fun o' => (d, od) :: M' o') hp1 (fun o' => .tail (U _ o')) (by decide) (by omega) hn).te ar' (by decide) (by decide) fun r M1 I1 ⟨e1, o2, e2, hp2, t2, e3⟩ => ?_
    subst e1 e2 e3
    refine ep_nil ?_
    refine ⟨od, M' o2, rfl, hod, by rfl, show (["K"] : List Str).Nodup by decide +kernel, fun o' ho' => ?_⟩
    repeat walk_at "mE"
    refine .shed (.freeze .head) (.of ⟨fun p hp => .tail _ (s0 hp), o2, _, .dic [("K", .num (drawN ns cc (spot + 1) 5))], rfl, by omega, hp2.mono fun p hp => .tail _ hp, ⟨d, rfl, o', _, .head _, ho', .cons ⟨t2, rfl⟩ .nil⟩, .inr (.inl ⟨_, rfl⟩)⟩)
  · refine c_eqi_f (by decide) ?_
    repeat walk_at "mE"
    refine c_eqi_f (by decide) ?_
    repeat walk_at "mE"
    refine c_eqi_t (by decide) ?_
    repeat walk_at "mE"
    refine e_comp (cl := [("pen", L)]) (by kernel_rfl) (by decide +kernel) (by kernel_rfl) (by decide +kernel) (fun _ => by kernel_rfl) ?_
    repeat walk_at "mE"
    refine e_cell (by kernel_rfl) (.head _) hoc (by kernel_rfl) (by kernel_rfl) ?_
    repeat walk_at "mE"
    refine (fn_draw k (M' := M') hp1 (U _) (by decide) (by omega) hn).te ar' (by decide) (by decide) fun r M1 I1 ⟨e1, o2, e2, hp2, t2, e3⟩ => ?_
    obtain ⟨v0, v4⟩ := draw_lt ns cc (spot + 1) (many := 4) (by decide)
    subst e1 e2 e3
    obtain ⟨cnt, hcnt⟩ : ∃ cnt : Nat, drawN ns cc (spot + 1) 4 = (cnt : Int) := ⟨(drawN ns cc (spot + 1) 4).toNat, by omega⟩
    rw [hcnt] at v4 ⊢
    repeat walk_at "mE"
    refine n_range fun ra ro hro => ?_
    refine p_range (List.mem_append_right _ (.head _)) hro (by omega) ar'.hd fun it oi O Wl h0 => ?_
    refine ⟨it, oi, _, _, _, O, _, fun j ys M3 I3 => I3 = (ra, ro) :: (L, oc) :: I ∧ ∃ o' js, M3 = M' o' ∧ PenO ((ra, ro) :: (L, oc) :: I) ns cc (spot + 2 + j) o' ∧ IntsAre ys js ∧ js.length = j ∧ ∀ n ∈ js, 0 ≤ n ∧ n < 40, rfl, rfl, Wl _ _ trivial, h0, ⟨rfl, o2, [], rfl, hp2.mono fun p hp => .tail _ hp, .nil, rfl, fun n hn => by cases hn⟩, line_of (by omega), ?_, ?_, ?_⟩
    · rintro j ys M3 I3 _ p hp
      cases hp
    · rintro j ys M3 I3 v o' C oC D oD lm hj hv ⟨rfl, o3, js, rfl, hp3, hys, hjl, hjs⟩ hno hlo Ry Rn hRy hRn
      obtain ⟨t, rfl⟩ := hv
      refine as_name ?_
      refine cn_local (fun o' => .head) hno (by kernel_rfl) (by kernel_rfl) fun oC1 hno1 => ⟨rfl, ?_⟩
      refine tt_nil ?_
      refine ite_t ?_
      repeat walk_at "mE"
      refine ce_cell (by kernel_rfl) (List.mem_append_right _ (.tail _ (.head _))) hoc (by kernel_rfl) (by kernel_rfl) (by kernel_rfl) ?_
      repeat walk_at "mE"
      refine (fn_draw k (M' := fun o2 => (C, oC1) :: (D, oD) :: (it, o') :: M' o2) hp3 (fun o' => .tail (.tail (.tail (U _ o')))) (by decide) (by omega) hn).te ar' (by decide) (by decide) fun r M1 I1 ⟨e1, o4, e2, hp4, t4, e3⟩ => ?_
      subst e1 e2 e3
      have hd := draw_lt ns cc (spot + 2 + j) (many := 40) (by decide)
      refine hRy.go ⟨oC1, _, rfl, ⟨_, hno1⟩, rfl, o4, js ++ [drawN ns cc (spot + 2 + j) 40], rfl, hp4, hys.append (.cons _ _ .nil), by rw [List.length_append, hjl]; rfl, fun n hn => ?_⟩
      rcases List.mem_append.mp hn with h | h
      · exact hjs n h
      · rw [List.mem_singleton.mp h]; exact hd
    · rintro ys M3 I3 D oD ⟨rfl, o3, js, rfl, hp3, hys, hjl, hjs⟩ hlo
      repeat walk_at "mE"
      refine n_bytes (List.mem_append_left _ (.head _)) hlo hys (fun n hn => by have := hjs n hn; omega) (line_of (by rw [hys.length]; omega)) ar'.hd fun tb => ?_
      refine .shed (.drop .head) ?_
      repeat walk_at "mE"
      have hbl : (js.map fun n => n.toNat.toUInt8).length = cnt := by rw [List.length_map, hjl]
      have hb40 : ∀ x ∈ js.map (fun n => n.toNat.toUInt8), x.toNat < 40 := by
        intro x hx
        obtain ⟨n, hn, rfl⟩ := List.mem_map.mp hx
        have h := hjs n hn
        have : n.toNat.toUInt8.toNat = n.toNat := by
          show n.toNat % 2 ^ 8 = n.toNat
          omega
        omega
      generalize hB : js.map (fun n => n.toNat.toUInt8) = B at hbl hb40 ⊢
      refine e_dict rfl rfl (by simp) (Nat.le_of_ble_eq_true rfl) fun d od hod => ?_
      refine ep_cons ?_
      repeat walk_at "mE"
      refine mk_Name k ar' (by decide) fun nx I4 s4 inx => ?_
      have s5 : (L, oc) ∈ I4 := s4 (.tail _ (.head _))
      refine ep_cons ?_
      repeat walk_at "mE"
      refine n_lenb (by omega) fun tl => ?_
      repeat walk_at "mE"
      rename_i t7
      refine n_list (Nat.le_of_ble_eq_true rfl) fun ql oql hql => ?_
      repeat walk_at "mE"
      refine e_cell (by kernel_rfl) s5 hoc (by kernel_rfl) (by kernel_rfl) ?_
      repeat walk_at "mE"
      refine (fn_draw k (M' := fun o2 => (ql, oql) :: (d, od) :: M' o2) (hp3.mono s4) (fun o' => .tail (.tail (U _ o'))) (by decide) (by omega) hn).te ar' (by decide) (by decide) fun r M1 I1 ⟨e1, o4, e2, hp4, t4, e3⟩ => ?_
      have hd := draw_lt ns cc (spot + 2 + cnt) (many := 2) (by decide)
      subst e1 e2 e3
      generalize drawN ns cc (spot + 2 + cnt) 2 = idx at hd ⊢
      obtain ⟨lv, tv, hlv, hln⟩ : ∃ lv tv, ([.int (B.length : Int) tl, .int 77 t7] : List Value)[idx.toNat]? = some (.int lv tv) ∧ (lv = (B.length : Int) ∨ lv = 77) := by
        have : idx = 0 ∨ idx = 1 := by omega
        rcases this with rfl | rfl
        · exact ⟨_, _, rfl, .inl rfl⟩
        · exact ⟨_, _, rfl, .inr rfl⟩
      refine i_list (List.mem_append_left _ (.head _)) hql (by omega) (by omega) hlv (by kernel_rfl) ?_
      refine .shed (.drop .head) ?_
      refine ep_nil ?_
      refine ⟨od, M' o4, rfl, hod, by rfl, show (["Type", "Length"] : List Str).Nodup by decide +kernel, fun o' ho' => ?_⟩
      refine .freeze .head ?_
      repeat walk_at "mE"
      refine mk_Stream k ar' (by decide) fun x I5 s6 ix => ?_
      repeat walk_at "mE"
      refine .of ⟨fun p hp => s6 (.tail _ (s4 (.tail _ (s0 hp)))), o4, _, .stm [("Type", .nm "ObjStm"), ("Length", .num lv)] B, rfl, ?_, hp4.mono fun p hp => s6 (.tail _ hp), ⟨x, d, tb, rfl, ix, o', _, s6 (.head _), ho', .cons ⟨nx, _, rfl, inx.mono fun p hp => s6 (.tail _ hp)⟩ (.cons ⟨tv, rfl⟩ .nil)⟩, .inr (.inr (.inl ⟨lv, B, by omega, hb40, hln, rfl⟩))⟩
      omega
  · refine c_eqi_f (by decide) ?_
    repeat walk_at "mE"
    refine c_eqi_f (by decide) ?_
    repeat walk_at "mE"
    refine c_eqi_f (by decide) ?_
    repeat walk_at "mE"
    refine e_slice ?_
    repeat walk_at "mE"
    refine e_cell (by kernel_rfl) (.head _) hoc (by kernel_rfl) (by kernel_rfl) ?_
    repeat walk_at "mE"
    refine (fn_draw k (M' := M') hp1 (U _) (by decide) (by omega) hn).te ar' (by decide) (by decide) fun r M1 I1 ⟨e1, o2, e2, hp2, t2, e3⟩ => ?_
    obtain ⟨v0, v4⟩ := draw_lt ns cc (spot + 1) (many := 4) (by decide)
    subst e1 e2 e3
    intro sa so hso
    refine i_bslice (List.mem_append_right _ (.head _)) hso v0 (Nat.le_of_ble_eq_true rfl) (by kernel_rfl) (fun _ => by kernel_rfl) fun tb => ?_
    have hbl : (([97, 98, 99] : List UInt8).take (drawN ns cc (spot + 1) 4).toNat).length ≤ 3 := by rw [List.length_take]; exact Nat.min_le_right _ _
    repeat walk_at "mE"
    generalize hB : ([97, 98, 99] : List UInt8).take (drawN ns cc (spot + 1) 4).toNat = B at hbl ⊢
    refine e_dict rfl rfl (by simp) (Nat.le_of_ble_eq_true rfl) fun d od hod => ?_
    refine ep_cons ?_
    repeat walk_at "mE"
    refine n_lenb (by omega) fun tl => ?_
    repeat walk_at "mE"
    rename_i t7 _
    refine mk_Name k ar' (by decide) fun nx I4 s4 inx => ?_
    have s5 : (L, oc) ∈ I4 := s4 (.tail _ (.head _))
    repeat walk_at "mE"
    refine n_list (Nat.le_of_ble_eq_true rfl) fun ql oql hql => ?_
    repeat walk_at "mE"
    refine e_cell (by kernel_rfl) s5 hoc (by kernel_rfl) (by kernel_rfl) ?_
    repeat walk_at "mE"
    refine (fn_draw k (M' := fun o2 => (ql, oql) :: (d, od) :: M' o2) (hp2.mono fun p hp => s4 (.tail _ hp)) (fun o' => .tail (.tail (U _ o'))) (by decide) (by omega) hn).te ar' (by decide) (by decide) fun r M1 I1 ⟨e1, o4, e2, hp4, t4, e3⟩ => ?_
    have hd := draw_lt ns cc (spot + 1 + 1) (many := 3) (by decide)
    subst e1 e2 e3
    generalize drawN ns cc (spot + 1 + 1) 3 = idx at hd ⊢
    obtain ⟨lf, v, hlv, hlf, hln⟩ : ∃ lf v, ([.int (B.length : Int) tl, .int 2 t7, .ref nx] : List Value)[idx.toNat]? = some v ∧ LfIs c I1 lf v ∧ (lf = .num (B.length : Int) ∨ lf = .num 2 ∨ lf = .nm "x") := by
      have : idx = 0 ∨ idx = 1 ∨ idx = 2 := by omega
      rcases this with rfl | rfl | rfl
      · exact ⟨.num _, _, rfl, ⟨tl, rfl⟩, .inl rfl⟩
      · exact ⟨.num _, _, rfl, ⟨t7, rfl⟩, .inr (.inl rfl)⟩
      · exact ⟨.nm _, _, rfl, ⟨nx, _, rfl, inx⟩, .inr (.inr rfl)⟩
    refine i_list (List.mem_append_left _ (.head _)) hql (by omega) (by omega) hlv (by kernel_rfl) ?_
    refine .shed (.drop .head) ?_
    refine ep_nil ?_
    refine ⟨od, M' o4, rfl, hod, by rfl, show (["Length"] : List Str).Nodup by decide +kernel, fun o' ho' => ?_⟩
    refine .freeze .head ?_
    repeat walk_at "mE"
    refine mk_Stream k ar' (by decide) fun x I5 s6 ix => ?_
    repeat walk_at "mE"
    refine .of ⟨fun p hp => s6 (.tail _ (s4 (.tail _ (s0 hp)))), o4, _, .stm [("Length", lf)] B, rfl, ?_, hp4.mono fun p hp => s6 (.tail _ hp), ⟨x, d, tb, rfl, ix, o', _, s6 (.head _), ho', .cons (hlf.mono fun p hp => s6 (.tail _ hp)) .nil⟩, .inr (.inr (.inr ⟨lf, B, by omega, hln, rfl⟩))⟩
    omega
end



/-! what the law keeps aside -/
inductive MpIs {α : Type} (R : α → Value → Prop) : List (Nat × α) → List (Int × Value) → Prop
  | nil : MpIs R [] []
  | cons {n : Nat} {e : α} {v : Value} {T : List (Nat × α)} {kvs : List (Int × Value)} : R e v → MpIs R T kvs → MpIs R ((n, e) :: T) (((n : Int), v) :: kvs)
section
variable {α : Type} {R R' : α → Value → Prop}
theorem MpIs.imp (hr : ∀ x v, R x v → R' x v) {T : List (Nat × α)} {kvs : List (Int × Value)} (h : MpIs R T kvs) : MpIs R' T kvs := by
  induction h with
  | nil => exact .nil
  | cons h _ ih => exact .cons (hr _ _ h) ih
theorem MpIs.keys {T : List (Nat × α)} {kvs : List (Int × Value)} (h : MpIs R T kvs) : kvs.map (·.1) = T.map fun p => (p.1 : Int) := by
  induction h with
  | nil => rfl
  | cons _ _ ih => simp [ih]
theorem MpIs.length {T : List (Nat × α)} {kvs : List (Int × Value)} (h : MpIs R T kvs) : kvs.length = T.length := by
  have := congrArg List.length h.keys
  simpa using this
theorem MpIs.any {T : List (Nat × α)} {kvs : List (Int × Value)} (h : MpIs R T kvs) (n : Nat) : (kvs.any fun kv => kv.1 = (n : Int)) = T.any fun p => p.1 == n := by
  induction h with
  | nil => rfl
  | @cons k e v T kvs _ _ ih => rw [List.any_cons, List.any_cons, ih]; congr 1; exact nat_eq_iff k n
theorem MpIs.put {T : List (Nat × α)} {kvs : List (Int × Value)} (h : MpIs R T kvs) (n : Nat) {e : α} {v : Value} (he : R e v) : MpIs R (put T n e) (stored kvs (n : Int) v) := by
  unfold Mine.put stored
  rw [h.any n]
  split
  · rename_i hq; clear hq
    induction h with
    | nil => exact .nil
    | @cons k e' v' T kvs h' _ ih =>
      rw [List.map_cons, List.map_cons]
      by_cases e1 : k = n
      · subst e1
        simp only [beq_self_eq_true, if_true]
        exact .cons he ih
      · have : ¬ ((k : Int) = (n : Int)) := by omega
        simp only [this, if_false, beq_eq_false_iff_ne.mpr e1]
        exact .cons h' ih
  · rename_i hq; clear hq
    induction h with
    | nil => exact .cons he .nil
    | cons h' _ ih => exact .cons h' ih
theorem MpIs.at {T : List (Nat × α)} {kvs : List (Int × Value)} (h : MpIs R T kvs) (n : Nat) : (get T n = none ∧ valueAt kvs (n : Int) = none) ∨ ∃ e v, get T n = some e ∧ valueAt kvs (n : Int) = some v ∧ R e v := by
  induction h with
  | nil => exact .inl ⟨rfl, rfl⟩
  | @cons k e v T kvs h _ ih =>
    unfold get valueAt at ih ⊢
    rw [List.find?_cons, List.find?_cons]
    by_cases e1 : k = n
    · subst e1
      simp only [decide_true, beq_self_eq_true]
      exact .inr ⟨e, v, rfl, rfl, h⟩
    · have : ¬ ((k : Int) = (n : Int)) := by omega
      simp only [this, decide_false, beq_eq_false_iff_ne.mpr e1]
      exact ih
end
abbrev LEnt := Nat × Option Tr
abbrev LTab := List (Nat × LEnt)
def roomV : Vl → Bool
  | .stm kvs _ => kvs.any fun p => p.1 == ("Type" : Str)
  | _ => false
def shapeV : Vl → Vl
  | .stm _ b => .stm [("Length", .num b.length)] b
  | v => v
def codeTr (x : UInt8) : Tr := .tup [.str "int", .int x.toNat]
def codeStep (T : LTab) (x : UInt8) : LTab := if 10 ≤ x.toNat then put T (x.toNat / 10) (0, some (codeTr x)) else T
def firstStep (T : LTab) (p : Pc) : LTab := put T p.num (p.gen, if roomV p.val = true then none else some (tlV (shapeV p.val)))
def opensV : Vl → Bool
  | .stm kvs b => roomV (.stm kvs b) && decide (b.head? ≠ some 9)
  | _ => false
def octV : Vl → List UInt8
  | .stm _ b => b
  | _ => []
def lastStep (T : LTab) (p : Pc) : LTab := if opensV p.val = true then (octV p.val).foldl codeStep (firstStep T p) else firstStep T p
def lastOf (ps : List Pc) : LTab := ps.foldl lastStep []
def LEntIs (I : Led) (e : LEnt) (v : Value) : Prop := ∃ a o t x, v = .ref a ∧ (a, o) ∈ I ∧ TO [.int e.1 t, x] o ∧ (match e.2 with | none => x = .none | some tr => TIs I tr x)
theorem LEntIs.mono {I I' : Led} {e : LEnt} {v : Value} (hs : I ⊆ I') (h : LEntIs I e v) : LEntIs I' e v := by
  obtain ⟨a, o, t, x, h1, h2, h3, h4⟩ := h
  refine ⟨a, o, t, x, h1, hs h2, h3, ?_⟩
  obtain ⟨n, e⟩ := e
  cases e with
  | none => exact h4
  | some tr => exact TIs.mono hs h4
abbrev LsIs (I : Led) : LTab → List (Int × Value) → Prop := MpIs (LEntIs I)
theorem LsIs.mono {I I' : Led} {T : LTab} {kvs : List (Int × Value)} (hs : I ⊆ I') (h : LsIs I T kvs) : LsIs I' T kvs := h.imp fun _ _ => LEntIs.mono hs
theorem put_keys {α : Type} (T : List (Nat × α)) (n : Nat) (e : α) : ∀ k, k ∈ (put T n e).map (·.1) ↔ k = n ∨ k ∈ T.map (·.1) := by
  intro k
  unfold put
  split
  · rename_i h
    have e1 : (T.map fun p => if p.1 == n then (p.1, e) else p).map (·.1) = T.map (·.1) := by
      rw [List.map_map]
      apply List.map_congr_left
      intro p _
      show (if p.1 == n then (p.1, e) else p).1 = p.1
      split <;> rfl
    rw [e1]
    obtain ⟨p, hp, hq⟩ := List.any_eq_true.mp h
    have : p.1 = n := by simpa using hq
    constructor
    · exact fun h => .inr h
    · rintro (rfl | h)
      · exact this ▸ List.mem_map_of_mem (f := (·.1)) hp
      · exact h
  · rw [List.map_append]
    simp
    exact Or.comm
theorem put_nodup {α : Type} {T : List (Nat × α)} (h : (T.map (·.1)).Nodup) (n : Nat) (e : α) : ((put T n e).map (·.1)).Nodup := by
  unfold put
  split
  · have e1 : (T.map fun p => if p.1 == n then (p.1, e) else p).map (·.1) = T.map (·.1) := by
      rw [List.map_map]
      apply List.map_congr_left
      intro p _
      show (if p.1 == n then (p.1, e) else p).1 = p.1
      split <;> rfl
    rw [e1]; exact h
  · rename_i hq
    rw [List.map_append, List.nodup_append]
    refine ⟨h, by simp, fun a ha b hb => ?_⟩
    rintro rfl
    have : a = n := by simpa using hb
    subst this
    apply hq
    obtain ⟨p, hp, rfl⟩ := List.mem_map.mp ha
    exact List.any_eq_true.mpr ⟨p, hp, by simp⟩
/-- numbers and values as the law draws them -/
structure LawP (p : Pc) : Prop where
  num : p.num < 4
  val : LawV p.val
theorem code_num (x : UInt8) (h : x.toNat < 40) : x.toNat / 10 < 4 := by omega
theorem keys_codes : ∀ (b : List UInt8) (T : LTab), (∀ x ∈ b, x.toNat < 40) → (∀ k ∈ T.map (·.1), k < 4) → (T.map (·.1)).Nodup → (∀ k ∈ (b.foldl codeStep T).map (·.1), k < 4) ∧ ((b.foldl codeStep T).map (·.1)).Nodup
  | [], T, _, h2, h3 => ⟨h2, h3⟩
  | x :: b, T, h1, h2, h3 => by
    rw [List.foldl_cons]
    refine keys_codes b _ (fun y hy => h1 y (List.mem_cons_of_mem _ hy)) ?_ ?_
    · unfold codeStep
      split
      · intro k hk
        rcases (put_keys _ _ _ k).mp hk with rfl | h
        · exact code_num x (h1 x (List.mem_cons_self ..))
        · exact h2 k h
      · exact h2
    · unfold codeStep
      split
      · exact put_nodup h3 _ _
      · exact h3
theorem oct40 {v : Vl} (h : LawV v) (ho : opensV v = true) : ∀ x ∈ octV v, x.toNat < 40 := by
  rcases h with ⟨n, rfl⟩ | ⟨n, rfl⟩ | ⟨n, b, h1, h2, h3, rfl⟩ | ⟨lf, b, h1, h2, rfl⟩
  · cases ho
  · cases ho
  · exact h2
  · have : (("Length" : Str) == "Type") = false := by decide +kernel
    change (((("Length" : Str) == "Type") || false) && decide (b.head? ≠ some 9)) = true at ho
    rw [this] at ho
    cases ho
theorem keys_step {T : LTab} {p : Pc} (hp : LawP p) (h2 : ∀ k ∈ T.map (·.1), k < 4) (h3 : (T.map (·.1)).Nodup) : (∀ k ∈ (lastStep T p).map (·.1), k < 4) ∧ ((lastStep T p).map (·.1)).Nodup := by
  have a2 : ∀ k ∈ (firstStep T p).map (·.1), k < 4 := fun k hk => by
    rcases (put_keys _ _ _ k).mp hk with rfl | h
    · exact hp.num
    · exact h2 k h
  have a3 : ((firstStep T p).map (·.1)).Nodup := put_nodup h3 _ _
  unfold lastStep
  split
  · exact keys_codes _ _ (oct40 hp.val (by assumption)) a2 a3
  · exact ⟨a2, a3⟩
theorem nodup_len : ∀ (n : Nat) (l : List Nat), l.Nodup → (∀ k ∈ l, k < n) → l.length ≤ n
  | 0, l, _, h => by
    cases l with
    | nil => exact Nat.le_refl _
    | cons a r => exact absurd (h a (List.mem_cons_self ..)) (Nat.not_lt_zero _)
  | n + 1, l, hn, h => by
    have h1 : (l.erase n).Nodup := hn.erase n
    have h2 := nodup_len n (l.erase n) h1 fun k hk => by
      have h3 := h k (List.mem_of_mem_erase hk)
      have h4 : k ≠ n := fun e => by
        subst e
        exact (List.Nodup.mem_erase_iff hn).mp hk |>.1 rfl
      omega
    have h5 : l.length ≤ (l.erase n).length + 1 := by
      rw [List.length_erase]
      split <;> omega
    omega
theorem len_keys {α : Type} {T : List (Nat × α)} (h2 : ∀ k ∈ T.map (·.1), k < 4) (h3 : (T.map (·.1)).Nodup) : T.length ≤ 4 := by
  have := nodup_len 4 _ h3 h2
  simpa using this
def dueOk (T : LTab) (n : Nat) : Bool := decide (0 < n) && (match get T n with | some (_, some _) => true | _ => false)
def dueRow (T : LTab) (n : Nat) : Tr := match get T n with | some (g, some tr) => .tup [.int n, .int g, tr] | _ => .int 0
def dueOf (T : LTab) : List Tr := ((ordN (T.map (·.1))).filter (dueOk T)).map (dueRow T)




/-- a frame with none further out -/
def fcTop (d : DefI) (fa : Addr) (cd : Value) (cl : List (Str × Addr)) (L : Addr) (base g : Heap) (A₀ : Around) : Fc := { cn := d.qual, cs := d.scope, a := fa, cd := cd, cl := cl, L := L, outer := [], A₀ := A₀, base := base, h₀ := g }
structure FqL where
  fa : Addr
  cd : Value
  L : Addr
  base : Heap
  g : Heap
  A₀ : Around
noncomputable def fL (L : Addr) (q : FqL) : Fc := fcTop d_law q.fa q.cd [("last", L)] q.L q.base q.g q.A₀
noncomputable def lawLoop : List Stmt := match d_law.body.getD 3 (.Pass default) with
  | .For _ _ b _ _ => b
  | _ => []
section
variable {c : Wc} {f : Fc} {A : Around} {m : Loc} {M I : Led} {E : Value → Shared → Prop}
theorem as_bind {x : Str} {v : Value} {Q : Unit → Loc → Led → Led → Prop} (h : Ts c f A m M I (storeName f.env x v) Q E) : Ts c f A m M I (bindName f.env x v) Q E :=
  .mk fun s L => bindName_ (h.run s L)
theorem s_assignW {elts : List Expr} {k : Nat} {tpos : Pos} {value : Expr} {pos : Pos} {names : List Str} {Q : Flow → Loc → Led → Led → Prop} (hh : A.handled = none)
    (h : Te c f A m M I (eval value f.env) (fun v M I => ∃ t o vs, v = .ref t ∧ (t, o) ∈ I ∧ TO vs o ∧ names.length = vs.length ∧ Ts c f A m M I (assignInOrder (names.reverse.map fun n => bindName f.env n) vs.reverse) (fun _ m M I => Q .next m M I) E) E)
    (hs : swapsWithSole [.Tuple elts k tpos] value pos.line f.env = pure false) (hw : swappedStores [.Tuple elts k tpos] value f.env = pure (some names)) :
    Ts c f A m M I (exec (.Assign [.Tuple elts k tpos] value pos) f.env) Q E := by
  refine .mk fun s L => Assign_Tuple_swapped (names := names) (h.step L fun v h1 t1 M1 I1 L1 q => ?_) hs hw
  obtain ⟨t, o, vs, rfl, hm, hT, hl, q⟩ := q
  obtain ⟨g1, L1⟩ := L1
  refine unpackItemsN_ (s := { s with heap := h1, toks := t1 }) L1.F L1.N (L1.isTup (List.mem_append_right _ hm) hT) hh (by simpa using hl) fun h' F' N' => ?_
  have L2 : Live c f m M1 I1 h' := ⟨g1, L1.B, F', L1.X, N', L1.T, L1.ap, L1.kd⟩
  refine wpAny_mono (q.run { s with heap := h', toks := t1 } L2) (fun _ _ q => q) fun _ _ q => q
def isStm : Vl → Bool
  | .stm _ _ => true
  | _ => false
theorem isi_stream (k : KF c.K) {l : Vl} {v : Value} (hv : VlIs c I l v) {Q : Value → Led → Led → Prop} (h : Q (.bool (isStm l)) M I) : Te c f A m M I (call (.builtin "isinstance") [v, .ref 226]) Q E := by
  cases l with
  | num n => obtain ⟨t, rfl⟩ := hv; exact r_isi .int (k.kitF (by decide +kernel)) h
  | dic kvs => obtain ⟨a, rfl, o, kv, hm, hd, _⟩ := hv; exact r_isi (.dict (List.mem_append_right _ hm) hd.2.choose_spec.choose_spec.1.1) (k.kitF (by decide +kernel)) h
  | stm kvs b => obtain ⟨x, a, t, rfl, i, _⟩ := hv; exact r_isi (i.stream k) (k.kitT (by decide +kernel)) h
theorem c_nebytes {a b : List UInt8} {t u : Tok} {Q : Value → Led → Led → Prop} (h : Q (.bool (a != b)) M I) : Te c f A m M I (compareOp .NotEq (.bytes a.toArray t) (.bytes b.toArray u)) Q E :=
  Te.here (fun s R L r => ne_bytes (by simpa using r s.toks)) h
theorem any_lfAt (kvs : List (Str × Lf)) (k : Str) : (kvs.any fun p => p.1 == k) = (lfAt kvs k).isSome := by
  unfold lfAt
  rw [Option.isSome_map]
  induction kvs with
  | nil => rfl
  | cons p r ih =>
    rw [List.any_cons, List.find?_cons, ih]
    by_cases e : p.1 = k
    · simp [e]
    · have : (p.1 == k) = false := by simp [e]
      simp [e, this]
theorem take1_ne (b : List UInt8) : (b.take 1 != [9]) = decide (b.head? ≠ some 9) := by
  cases b with
  | nil => rfl
  | cons x r =>
    rw [Bool.eq_iff_iff]
    simp
theorem opens_room {l : Vl} (h : roomV l = false) : opensV l = false := by
  cases l with
  | stm kvs b => show (roomV (.stm kvs b) && _) = false; rw [h]; rfl
  | num n => rfl
  | dic kvs => rfl
/-- where the law's loop stands -/
def LawSt (c : Wc) (L : Addr) (M₀ I₀ : Led) (ns : List Int) (cc : Int) (pen wk pl tl ld : Addr) (oc1 otl : Obj) (j : Nat) (m : Loc) (M I : Led) : Prop :=
  Look "pen" (.ref pen) m ∧ Look "ways" (.ref wk) m ∧ I₀ ⊆ I ∧ ∃ op opl old spot ps vs kvs, M = (pen, op) :: (pl, opl) :: (tl, otl) :: (ld, old) :: (L, oc1) :: M₀ ∧ PenO I ns cc spot op ∧ spot ≤ 1 + 11 * j ∧ LP vs opl ∧
    PcsIs c I ps vs ∧ ps.length = j ∧ (∀ p ∈ ps, LawP p) ∧ DI c ld kvs old ∧ LsIs I (lastOf ps) kvs
theorem law_turn (k : KF c.K) {L : Addr} {q : FqL} {M₀ I₀ I' : Led} {ns : List Int} {cc : Int} {pen wk pl tl ld it : Addr} {oc1 otl o' : Obj} {j : Nat} {tj : Tok} {m' : Loc} {M' : Led} {Q : Flow → Loc → Led → Led → Prop}
    (ar' : Ar (fL L q) A 1) (iw : Inst c I₀ 440 [("pieces", .ref pl), ("trailers", .ref tl)] wk) (hoc1 : oc1.data = .cell (some (.ref ld))) (hj : j < 6) (hn : ns.length < 1000)
    (H : LawSt c L M₀ I₀ ns cc pen wk pl tl ld oc1 otl j m' M' I') {R : Flow → Loc → Led → Led → Prop} (hR : Ends (TurnQ (LawSt c L M₀ I₀ ns cc pen wk pl tl ld oc1 otl (j + 1)) Q it o') R) :
    Ts c (fL L q) A (("at", .int (j : Int) tj) :: m') ((it, o') :: M') I' (execs lawLoop (fL L q).env) R FF := by
  obtain ⟨k1, k2, s0, op, opl, old, spot, ps, vs, kvs, rfl, hp, hsp, hpl, hps, hpn, hlaw, hd, hls⟩ := H
  refine s_cons ?_
  refine s_assignW (names := ["number", "generation", "value"]) ar'.hd ?_ (by kernel_rfl) (by kernel_rfl)
  repeat walk_at "mE"
  refine (fn_draw k (M' := fun o2 => (it, o') :: (pen, o2) :: (pl, opl) :: (tl, otl) :: (ld, old) :: (L, oc1) :: M₀) hp (fun _ => .tail .head) (by decide) (by omega) hn).te ar' (by decide) (by decide) fun r M1 I1 ⟨e1, op1, e2, hp1, t1, e3⟩ => ?_
  have b1 := draw_lt ns cc spot (many := 4) (by decide)
  subst e1 e2 e3
  repeat walk_at "mE"
  refine (fn_draw k (M' := fun o2 => (it, o') :: (pen, o2) :: (pl, opl) :: (tl, otl) :: (ld, old) :: (L, oc1) :: M₀) hp1 (fun _ => .tail .head) (by decide) (by omega) hn).te ar' (by decide) (by decide) fun r M1 I1 ⟨e1, op2, e2, hp2, t2, e3⟩ => ?_
  subst e1 e2 e3
  repeat walk_at "mE"
  refine c_eq ?_
  generalize hgb : (drawN ns cc (spot + 1) 4 == 3) = gb
  repeat walk_at "mE"
  refine n_intbool fun tg => ?_
  repeat walk_at "mE"
  refine (fn_value k (M' := fun o2 => (it, o') :: (pen, o2) :: (pl, opl) :: (tl, otl) :: (ld, old) :: (L, oc1) :: M₀) hp2 (fun _ _ => .tail .head) (by omega) hn).te ar' (by decide) (by decide) fun r M2 I2 ⟨s1, op3, spot', l, e1, hsp', hp3, hvl, hlv⟩ => ?_
  subst e1
  repeat walk_at "mE"
  refine n_tuple (Nat.le_of_ble_eq_true rfl) fun ta oa hta => ?_
  refine ⟨ta, oa, _, rfl, .head _, hta, rfl, ?_⟩
  have s2 : I2 ⊆ (ta, oa) :: I2 := fun p hp => .tail _ hp
  refine u_cons (as_bind (n_local (by kernel_rfl) ?_))
  refine u_cons (as_bind (n_local (by kernel_rfl) ?_))
  refine u_cons (as_bind (n_local (by kernel_rfl) ?_))
  refine u_nil ?_
  have iw2 : Inst c ((ta, oa) :: I2) 440 [("pieces", .ref pl), ("trailers", .ref tl)] wk := iw.mono fun p hp => s2 (s1 (s0 hp))
  obtain ⟨num, hnum⟩ : ∃ num : Nat, drawN ns cc spot 4 = (num : Int) := ⟨(drawN ns cc spot 4).toNat, by omega⟩
  obtain ⟨gen, hgen⟩ : ∃ gen : Nat, (if gb = true then (1 : Int) else 0) = (gen : Int) := ⟨if gb = true then 1 else 0, by cases gb <;> rfl⟩
  rw [hnum] at b1 ⊢
  rw [hgen]
  have hvl2 := hvl.mono s2
  repeat (first | walk_at "mE" | walk_at "mGet")
  refine gm_list (List.mem_append_left _ (.tail _ (.tail _ (.head _)))) hpl PySem.F.slot_list_append PySem.F.type_list_append ?_
  repeat walk_at "mE"
  refine o_mul (IntMulOk.of_left (by decide +kernel)) fun t5 => ?_
  repeat walk_at "mE"
  refine o_mul (IntMulOk.of_left (by decide +kernel)) fun t6 => ?_
  repeat walk_at "mE"
  refine o_add fun t7 => ?_
  repeat walk_at "mE"
  refine mk_Piece k ar' (by decide) fun pc I3 s3 ipc => ?_
  repeat walk_at "mE"
  refine p_append (M' := fun o2 => (it, o') :: (pen, op3) :: (pl, o2) :: (tl, otl) :: (ld, old) :: (L, oc1) :: M₀) (fun _ => .tail (.tail .head)) hpl (line_of (by rw [hps.length]; omega)) fun opl1 hpl1 => ?_
  have s4 : I2 ⊆ I3 := fun p hp => s3 (s2 hp)
  have hvl3 := hvl.mono s4
  -- is_room
  walk_at "mE"
  refine s_cons ?_
  refine s_assign (Te.mono (Q := fun v M4 I4 => v = .bool (roomV l) ∧ M4 = (it, o') :: (pen, op3) :: (pl, opl1) :: (tl, otl) :: (ld, old) :: (L, oc1) :: M₀ ∧ I4 = I3) ?_ fun v M4 I4 ⟨e1, e2, e3⟩ => ?_) (by kernel_rfl) (by kernel_rfl)
  · repeat walk_at "mE"
    refine isi_stream k hvl3 ?_
    repeat walk_at "mE"
    cases l with
    | num n => exact ⟨rfl, rfl, rfl⟩
    | dic kvs2 => exact ⟨rfl, rfl, rfl⟩
    | stm kvs2 b =>
      obtain ⟨x, a, t, rfl, ist, hD⟩ := id hvl3
      obtain ⟨od, kv', hmd, hds, hkv⟩ := hD
      refine ite_t ?_
      repeat (first | walk_at "mE" | walk_at "mGet")
      refine d_in (List.mem_append_right _ hmd) hds (strKind_is _ _ _ _) ?_
      refine ⟨?_, rfl, rfl⟩
      have hr : roomV (.stm kvs2 b) = (kvs2.any fun p => p.1 == ("Type" : Str)) := rfl
      rw [hr, any_lfAt]
      rcases hkv.at "Type" with ⟨h1, h2⟩ | ⟨l', v', h1, h2, _⟩
      · rw [h1, h2]; rfl
      · rw [h1, h2]; rfl
  subst e1 e2 e3
  -- shape
  refine s_cons ?_
  refine s_assign (Te.mono (Q := fun v M5 I5 => I4 ⊆ I5 ∧ M5 = (it, o') :: (pen, op3) :: (pl, opl1) :: (tl, otl) :: (ld, old) :: (L, oc1) :: M₀ ∧ VlIs c I5 (shapeV l) v) ?_ fun sv M5 I5 ⟨s5, e1, hsv⟩ => ?_) (by kernel_rfl) (by kernel_rfl)
  · repeat walk_at "mE"
    refine isi_stream k hvl3 ?_
    repeat walk_at "mE"
    cases l with
    | num n =>
      refine ite_t ?_
      repeat walk_at "mE"
      exact ⟨fun p hp => hp, rfl, hvl3⟩
    | dic kvs2 =>
      refine ite_t ?_
      repeat walk_at "mE"
      exact ⟨fun p hp => hp, rfl, hvl3⟩
    | stm kvs2 b =>
      obtain ⟨x, a, t, rfl, ist, hD⟩ := id hvl3
      have hb3 : b.length ≤ 3 := by
        rcases hlv with ⟨n, h⟩ | ⟨n, h⟩ | ⟨n, b', h1, _, _, h⟩ | ⟨lf, b', h1, _, h⟩
        · cases h
        · cases h
        · cases h; exact h1
        · cases h; exact h1
      refine ite_f ?_
      repeat (first | walk_at "mE" | walk_at "mGet")
      refine e_dict rfl rfl (by simp) (Nat.le_of_ble_eq_true rfl) fun d od hod => ?_
      refine ep_cons ?_
      repeat (first | walk_at "mE" | walk_at "mGet")
      refine n_lenb (by omega) fun tl' => ?_
      refine ep_nil ?_
      refine ⟨od, _, rfl, hod, by rfl, show (["Length"] : List Str).Nodup by decide +kernel, fun o2 ho2 => ?_⟩
      refine .freeze .head ?_
      have ist' := ist.mono (I' := (d, o2) :: I4) fun p hp => .tail _ hp
      repeat (first | walk_at "mE" | walk_at "mGet")
      refine mk_Stream k ar' (by decide) fun y I5 s6 iy => ?_
      exact ⟨fun p hp => s6 (.tail _ hp), rfl, ⟨y, d, t, rfl, iy, o2, _, s6 (.head _), ho2, .cons ⟨tl', rfl⟩ .nil⟩⟩
  subst e1
  -- last[number]
  have hgs : GoodV (shapeV l) := by
    rcases hlv with ⟨n, rfl⟩ | ⟨n, rfl⟩ | ⟨n, b', h1, _, _, rfl⟩ | ⟨lf, b', h1, _, rfl⟩
    · trivial
    · exact ⟨sortsTo_one (by simp), by simp⟩
    · exact ⟨⟨sortsTo_one (by simp), by simp⟩, by omega⟩
    · exact ⟨⟨sortsTo_one (by simp), by simp⟩, by omega⟩
  refine s_cons ?_
  refine s_assignS (Te.mono (Q := fun v M6 I6 => I5 ⊆ I6 ∧ M6 = (it, o') :: (pen, op3) :: (pl, opl1) :: (tl, otl) :: (ld, old) :: (L, oc1) :: M₀ ∧ LEntIs I6 (gen, if roomV l = true then none else some (tlV (shapeV l))) v) ?_ fun lv M6 I6 ⟨s6, e1, hlev⟩ => ?_) (by kernel_rfl)
  · repeat walk_at "mE"
    cases hr : roomV l with
    | true =>
      repeat walk_at "mE"
      refine n_tuple (Nat.le_of_ble_eq_true rfl) fun t8 o8 h8 => ?_
      exact ⟨fun p hp => .tail _ hp, rfl, t8, o8, tg, _, rfl, .head _, h8, rfl⟩
    | false =>
      repeat walk_at "mE"
      refine (told_vl k hsv hgs).te ar' (by decide) (by decide) fun r M7 I7 ⟨e1, e2, e3⟩ => ?_
      subst e1
      repeat walk_at "mE"
      refine n_tuple (Nat.le_of_ble_eq_true rfl) fun t8 o8 h8 => ?_
      exact ⟨fun p hp => .tail _ (e2 hp), rfl, t8, o8, tg, _, rfl, .head _, h8, TIs.mono (fun p hp => .tail _ hp) e3⟩
  subst e1
  refine e_cellM (by kernel_rfl) (List.mem_append_left _ (.tail _ (.tail _ (.tail _ (.tail _ (.tail _ (.head _)))))))  hoc1 (by kernel_rfl) (by kernel_rfl) ?_
  repeat walk_at "mE"
  have hkl : kvs.length ≤ 4 ∧ (∀ k ∈ (lastOf ps).map (·.1), k < 4) ∧ ((lastOf ps).map (·.1)).Nodup := by
    have : ∀ (qs : List Pc) (T : LTab), (∀ p ∈ qs, LawP p) → (∀ k ∈ T.map (·.1), k < 4) → (T.map (·.1)).Nodup → (∀ k ∈ (qs.foldl lastStep T).map (·.1), k < 4) ∧ ((qs.foldl lastStep T).map (·.1)).Nodup := by
      intro qs
      induction qs with
      | nil => intro T _ h2 h3; exact ⟨h2, h3⟩
      | cons q qs ih =>
        intro T h1 h2 h3
        have h4 := keys_step (h1 q (List.mem_cons_self ..)) h2 h3
        exact ih _ (fun p hp => h1 p (List.mem_cons_of_mem _ hp)) h4.1 h4.2
    have h := this ps [] hlaw (by simp) (by simp)
    exact ⟨by rw [hls.length]; exact len_keys h.1 h.2, h.1, h.2⟩
  refine d_set (M' := fun o2 => (it, o') :: (pen, op3) :: (pl, opl1) :: (tl, otl) :: (ld, o2) :: (L, oc1) :: M₀) (fun _ => .tail (.tail (.tail (.tail .head)))) hd (intKind_is _ _ _ _) (line_of (by omega)) fun old1 hd1 => ?_
  have hpz : LawP ⟨num, gen, 10 * j, 10 * j + 5, l⟩ := ⟨by show num < 4; omega, hlv⟩
  have s7 : _ ⊆ I6 := fun p hp => s6 (s5 (s4 (s1 hp)))
  have hls1 : LsIs I6 (firstStep (lastOf ps) ⟨num, gen, 10 * j, 10 * j + 5, l⟩) (stored kvs (num : Int) lv) := (hls.mono s7).put num hlev
  have hk1 : (∀ k ∈ (firstStep (lastOf ps) ⟨num, gen, 10 * j, 10 * j + 5, l⟩).map (·.1), k < 4) ∧ ((firstStep (lastOf ps) ⟨num, gen, 10 * j, 10 * j + 5, l⟩).map (·.1)).Nodup := ⟨fun k hk => by
    rcases (put_keys _ _ _ k).mp hk with rfl | h
    · exact hpz.num
    · exact hkl.2.1 k h, put_nodup hkl.2.2 _ _⟩
  have hvl6 : VlIs c I6 l r := hvl3.mono fun p hp => s6 (s5 hp)
  have hps6 : PcsIs c I6 (ps ++ [⟨num, gen, 10 * j, 10 * j + 5, l⟩]) (vs ++ [.ref pc]) := (PcsIs.mono s7 hps).append (.cons ⟨pc, r, t1, tg, t5, t7, rfl, ipc.mono fun p hp => s6 (s5 hp), hvl6⟩ .nil)
  have fin : ∀ {m2 : Loc} {M2 I2 : Led} {o9 : Obj} {kv9 : List (Int × Value)}, Look "pen" (.ref pen) m2 → Look "ways" (.ref wk) m2 → I6 ⊆ I2 → M2 = (pen, op3) :: (pl, opl1) :: (tl, otl) :: (ld, o9) :: (L, oc1) :: M₀ → DI c ld kv9 o9 → LsIs I2 (lastStep (lastOf ps) ⟨num, gen, 10 * j, 10 * j + 5, l⟩) kv9 →
      LawSt c L M₀ I₀ ns cc pen wk pl tl ld oc1 otl (j + 1) m2 M2 I2 := by
    intro m2 M2 I2 o9 kv9 q1 q2 q3 q4 q5 q6
    refine ⟨q1, q2, fun p hp => q3 (s7 (s0 hp)), op3, opl1, o9, spot', ps ++ [⟨num, gen, 10 * j, 10 * j + 5, l⟩], _, kv9, q4, hp3.mono fun p hp => q3 (s6 (s5 (s4 hp))), by omega, hpl1, hps6.mono q3, by rw [List.length_append, hpn]; rfl, fun p hp => ?_, q5, ?_⟩
    · rcases List.mem_append.mp hp with h | h
      · exact hlaw p h
      · rw [List.mem_singleton.mp h]; exact hpz
    · have : lastOf (ps ++ [⟨num, gen, 10 * j, 10 * j + 5, l⟩]) = lastStep (lastOf ps) ⟨num, gen, 10 * j, 10 * j + 5, l⟩ := by unfold lastOf; rw [List.foldl_append]; rfl
      rw [this]; exact q6
  walk_at "mE"
  refine s_cons ?_
  refine s_if (Te.mono (Q := fun bb M7 I7 => bb = opensV l ∧ M7 = (it, o') :: (pen, op3) :: (pl, opl1) :: (tl, otl) :: (ld, old1) :: (L, oc1) :: M₀ ∧ I6 ⊆ I7) ?_ fun bb M7 I7 ⟨e1, e2, s8⟩ => ?_)
  · repeat walk_at "mE"
    cases hr : roomV l with
    | false =>
      repeat walk_at "mE"
      exact ⟨(opens_room hr).symm, rfl, fun p hp => hp⟩
    | true =>
      obtain ⟨kvs2, b, rfl⟩ : ∃ kvs2 b, l = .stm kvs2 b := by
        cases l with
        | stm kvs2 b => exact ⟨kvs2, b, rfl⟩
        | num n => cases hr
        | dic kvs2 => cases hr
      obtain ⟨x, a, t, rfl, ist, hD⟩ := id hvl6
      have hb3 : b.length ≤ 3 := by
        rcases hlv with ⟨n, h⟩ | ⟨n, h⟩ | ⟨n, b', h1, _, _, h⟩ | ⟨lf, b', h1, _, h⟩
        · cases h
        · cases h
        · cases h; exact h1
        · cases h; exact h1
      repeat (first | walk_at "mE" | walk_at "mGet")
      refine e_slice ?_
      repeat walk_at "mE"
      intro sa so hso
      refine i_bslice (List.mem_append_right _ (.head _)) hso (by decide) (by omega) (by kernel_rfl) (fun _ => by kernel_rfl) fun tb => ?_
      repeat walk_at "mE"
      refine c_nebytes ?_
      have e9 : (b.take (1 : Int).toNat != [9]) = opensV (.stm kvs2 b) := by
        show (b.take 1 != [9]) = (roomV (.stm kvs2 b) && decide (b.head? ≠ some 9))
        rw [hr, take1_ne]; rfl
      rw [e9]
      repeat walk_at "mE"
      cases opensV (.stm kvs2 b)
      · exact ⟨rfl, rfl, fun p hp => .tail _ hp⟩
      · refine ite_t ?_
        repeat walk_at "mE"
        exact ⟨rfl, rfl, fun p hp => .tail _ hp⟩
  · subst e1 e2
    cases ho : opensV l with
    | false =>
      have e : lastStep (lastOf ps) ⟨num, gen, 10 * j, 10 * j + 5, l⟩ = firstStep (lastOf ps) ⟨num, gen, 10 * j, 10 * j + 5, l⟩ := by unfold lastStep; dsimp only; rw [ho]; rfl
      refine ite_f ?_
      repeat walk_at "mE"
      exact ⟨_, rfl, fin (.there (by decide +kernel) (.there (by decide +kernel) (.there (by decide +kernel) (.there (by decide +kernel) (.there (by decide +kernel) (.there (by decide +kernel) k1))))))
        (.there (by decide +kernel) (.there (by decide +kernel) (.there (by decide +kernel) (.there (by decide +kernel) (.there (by decide +kernel) (.there (by decide +kernel) k2)))))) s8 rfl hd1 (by rw [e]; exact LsIs.mono s8 hls1)⟩
    | true =>
      have h40 := oct40 hlv ho
      obtain ⟨kvs2, b, rfl⟩ : ∃ kvs2 b, l = .stm kvs2 b := by
        cases l with
        | stm kvs2 b => exact ⟨kvs2, b, rfl⟩
        | num n => cases ho
        | dic kvs2 => cases ho
      obtain ⟨x, a, t, rfl, ist, hD⟩ := id (hvl6.mono s8)
      have e : lastStep (lastOf ps) ⟨num, gen, 10 * j, 10 * j + 5, .stm kvs2 b⟩ = b.foldl codeStep (firstStep (lastOf ps) ⟨num, gen, 10 * j, 10 * j + 5, .stm kvs2 b⟩) := by unfold lastStep; dsimp only; rw [ho]; rfl
      rw [e] at fin
      revert hls1 hk1 fin
      generalize firstStep (lastOf ps) ⟨num, gen, 10 * j, 10 * j + 5, .stm kvs2 b⟩ = T1
      intro hls1 hk1 fin
      refine ite_t ?_
      refine s_cons ?_
      refine s_for ?_ (fun _ => by kernel_rfl)
      repeat (first | walk_at "mE" | walk_at "mGet")
      refine p_bytes ar'.hd fun it2 oi O Wl h0 => ?_
      refine ⟨it2, oi, _, _, _, O, _, fun i m2 M2 I2 => Look "pen" (.ref pen) m2 ∧ Look "ways" (.ref wk) m2 ∧ I6 ⊆ I2 ∧ ∃ o9 kv9, M2 = (it, o') :: (pen, op3) :: (pl, opl1) :: (tl, otl) :: (ld, o9) :: (L, oc1) :: M₀ ∧ DI c ld kv9 o9 ∧ LsIs I2 ((b.take i).foldl codeStep T1) kv9, rfl, rfl, Wl _ _ trivial, h0,
        ⟨.there (by decide +kernel) (.there (by decide +kernel) (.there (by decide +kernel) (.there (by decide +kernel) (.there (by decide +kernel) (.there (by decide +kernel) k1))))), .there (by decide +kernel) (.there (by decide +kernel) (.there (by decide +kernel) (.there (by decide +kernel) (.there (by decide +kernel) (.there (by decide +kernel) k2))))), s8, old1, _, rfl, hd1, LsIs.mono s8 hls1⟩, ?_, ?_, ?_⟩
      · rintro i m2 M2 I2 _ p hp
        cases hp
      · rintro i m2 M2 I2 v oi' hi ⟨y, u, hy, rfl⟩ ⟨q1, q2, q3, o9, kv9, rfl, hd9, hl9⟩
        have hst : (b.take (i + 1)).foldl codeStep T1 = codeStep ((b.take i).foldl codeStep T1) y := foldl_take_succ codeStep T1 b hy
        have hk9 := keys_codes (b.take i) T1 (fun z hz => h40 z (List.mem_of_mem_take hz)) hk1.1 hk1.2
        have hz9 : kv9.length ≤ 4 := by rw [hl9.length]; exact len_keys hk9.1 hk9.2
        repeat walk_at "mE"
        refine c_ge ?_
        by_cases h10 : 10 ≤ y.toNat
        · have hcs : codeStep ((b.take i).foldl codeStep T1) y = put ((b.take i).foldl codeStep T1) (y.toNat / 10) (0, some (codeTr y)) := by unfold codeStep; rw [if_pos h10]
          rw [show decide ((10 : Int) ≤ (y.toNat : Int)) = true from by simp; omega]
          repeat walk_at "mE"
          refine n_tuple (Nat.le_of_ble_eq_true rfl) fun t8 o8 h8 => ?_
          repeat walk_at "mE"
          refine n_tuple (Nat.le_of_ble_eq_true rfl) fun t9 o9' h9 => ?_
          refine e_cellM (by kernel_rfl) (List.mem_append_left _ (.tail _ (.tail _ (.tail _ (.tail _ (.tail _ (.tail _ (.head _))))))))  hoc1 (by kernel_rfl) (by kernel_rfl) ?_
          repeat walk_at "mE"
          refine o_fdiv (by decide) (by decide) fun tf => ?_
          have ef : ((y.toNat : Int)).fdiv 10 = ((y.toNat / 10 : Nat) : Int) := by rw [Int.fdiv_eq_ediv_of_nonneg _ (by omega)]; omega
          rw [ef]
          refine d_set (M' := fun o2 => (it2, oi') :: (it, o') :: (pen, op3) :: (pl, opl1) :: (tl, otl) :: (ld, o2) :: (L, oc1) :: M₀) (fun _ => .tail (.tail (.tail (.tail (.tail .head))))) hd9 (intKind_is _ _ _ _) (line_of (by omega)) fun o10 hd10 => ?_
          repeat walk_at "mE"
          refine ⟨_, rfl, .there (by decide +kernel) q1, .there (by decide +kernel) q2, fun p hp => .tail _ (.tail _ (q3 hp)), o10, _, rfl, hd10, ?_⟩
          rw [hst, hcs]
          exact (LsIs.mono (fun p hp => .tail _ (.tail _ hp)) hl9).put _ ⟨t9, o9', _, _, rfl, .head _, h9, .tup (.tail _ (.head _)) h8 (.cons .str (.cons .int .nil))⟩
        · have hcs : codeStep ((b.take i).foldl codeStep T1) y = (b.take i).foldl codeStep T1 := by unfold codeStep; rw [if_neg h10]
          rw [show decide ((10 : Int) ≤ (y.toNat : Int)) = false from by simp; omega]
          repeat walk_at "mE"
          refine ⟨_, rfl, .there (by decide +kernel) q1, .there (by decide +kernel) q2, q3, o9, _, rfl, hd9, ?_⟩
          rw [hst, hcs]
          exact hl9
      · rintro m2 M2 I2 ⟨q1, q2, q3, o9, kv9, rfl, hd9, hl9⟩
        rw [List.take_length] at hl9
        repeat walk_at "mE"
        exact ⟨_, rfl, fin q1 q2 q3 rfl hd9 hl9⟩
end



/-! the plain law -/
theorem str_LT : (("Length" : Str) == "Type") = false := by decide +kernel
theorem str_OX : (("ObjStm" : Str) == "XRef") = false := by decide +kernel
theorem str_OO : (("ObjStm" : Str) == "ObjStm") = true := by decide +kernel
theorem str_TT : (("Type" : Str) == "Type") = true := by decide +kernel
theorem ne_KT : ("K" : Str) ≠ "Type" := by decide +kernel
theorem ne_LT : ("Length" : Str) ≠ "Type" := by decide +kernel
theorem lf_K (n : Int) : lfAt [("K", .num n)] "Type" = none := by
  unfold lfAt; rw [List.find?_cons_of_neg (by simp [ne_KT]), List.find?_nil]; rfl
theorem lf_L (l : Lf) : lfAt [("Length", l)] "Type" = none := by
  unfold lfAt; rw [List.find?_cons_of_neg (by simp [ne_LT]), List.find?_nil]; rfl
theorem lf_LL (l : Lf) : lfAt [("Length", l)] "Length" = some l := by
  unfold lfAt; rw [List.find?_cons_of_pos (by simp)]; rfl
theorem lf_T (l l' : Lf) : lfAt [("Type", l), ("Length", l')] "Type" = some l := by
  unfold lfAt; rw [List.find?_cons_of_pos (by simp)]; rfl
theorem room_T (l l' : Lf) (b : List UInt8) : roomV (.stm [("Type", l), ("Length", l')] b) = true := by
  simp [roomV]
theorem room_L (l : Lf) (b : List UInt8) : roomV (.stm [("Length", l)] b) = false := by
  simp [roomV, ne_LT]
section
variable {l : Vl} (h : LawV l)
include h
theorem lawv_file : fileS l = roomV l := by
  rcases h with ⟨n, rfl⟩ | ⟨n, rfl⟩ | ⟨n, b, h1, h2, h3, rfl⟩ | ⟨lf, b, h1, h2, rfl⟩
  · rfl
  · rfl
  · rw [room_T]
    show (isWord "ObjStm" (lfAt [("Type", .nm "ObjStm"), ("Length", .num n)] "Type") || _) = true
    rw [lf_T]
    show ((("ObjStm" : Str) == "ObjStm") || _) = true
    rw [str_OO]; rfl
  · rw [room_L]
    show (isWord "ObjStm" (lfAt [("Length", lf)] "Type") || isWord "XRef" (lfAt [("Length", lf)] "Type")) = false
    rw [lf_L]; rfl
theorem lawv_cross : isCross l = false := by
  rcases h with ⟨n, rfl⟩ | ⟨n, rfl⟩ | ⟨n, b, h1, h2, h3, rfl⟩ | ⟨lf, b, h1, h2, rfl⟩
  · rfl
  · rfl
  · show isWord "XRef" (lfAt [("Type", .nm "ObjStm"), ("Length", .num n)] "Type") = false
    rw [lf_T]; exact str_OX
  · show isWord "XRef" (lfAt [("Length", lf)] "Type") = false
    rw [lf_L]; rfl
theorem lawv_obj : isObjS l = roomV l := by
  have h1 := lawv_file h
  have h2 := lawv_cross h
  unfold fileS at h1
  rw [h2, Bool.or_false] at h1
  exact h1
theorem lawv_len (hr : roomV l = false) : lenV l = shapeV l := by
  rcases h with ⟨n, rfl⟩ | ⟨n, rfl⟩ | ⟨n, b, h1, h2, h3, rfl⟩ | ⟨lf, b, h1, h2, rfl⟩
  · rfl
  · rfl
  · rw [room_T] at hr; cases hr
  · show (if isLen b.length (lfAt [("Length", lf)] "Length") = true then Vl.stm [("Length", lf)] b else .stm (putS [("Length", lf)] "Length" (.num b.length)) b) = .stm [("Length", .num b.length)] b
    rw [lf_LL]
    split
    · rename_i hh
      cases lf with
      | num k =>
        have : k = (b.length : Int) := by simpa [isLen] using hh
        rw [this]
      | nm s => cases hh
    · have e : putS [(("Length" : Str), lf)] "Length" (Lf.num b.length) = [(("Length" : Str), Lf.num b.length)] := by
        unfold putS
        rw [if_pos (by simp)]
        simp
      rw [e]
theorem lawv_good : GoodV l := by
  rcases h with ⟨n, rfl⟩ | ⟨n, rfl⟩ | ⟨n, b', h1, _, _, rfl⟩ | ⟨lf, b', h1, _, rfl⟩
  · trivial
  · exact ⟨sortsTo_one (by simp), by simp⟩
  · exact ⟨⟨sortsTo_two' (show sortedS [("Length" : Str), "Type"] = true by decide +kernel) (show sortedS [("Type" : Str), "Length"] = false by decide +kernel), by simp⟩, by omega⟩
  · exact ⟨⟨sortsTo_one (by simp), by simp⟩, by omega⟩
theorem lawv_shape : GoodV (shapeV l) := by
  rcases h with ⟨n, rfl⟩ | ⟨n, rfl⟩ | ⟨n, b', h1, _, _, rfl⟩ | ⟨lf, b', h1, _, rfl⟩
  · trivial
  · exact ⟨sortsTo_one (by simp), by simp⟩
  · exact ⟨⟨sortsTo_one (by simp), by simp⟩, by omega⟩
  · exact ⟨⟨sortsTo_one (by simp), by simp⟩, by omega⟩
theorem lawv_cat : NoCat l := by
  rcases h with ⟨n, rfl⟩ | ⟨n, rfl⟩ | ⟨n, b', h1, _, _, rfl⟩ | ⟨lf, b', h1, _, rfl⟩
  · trivial
  · show isWord "Catalog" (lfAt [("K", .num n)] "Type") = false
    rw [lf_K]; rfl
  · trivial
  · trivial
theorem lawv_oct : octOk l = true := by
  rcases h with ⟨n, rfl⟩ | ⟨n, rfl⟩ | ⟨n, b', h1, _, _, rfl⟩ | ⟨lf, b', h1, _, rfl⟩
  · rfl
  · rfl
  · show decide _ = true; simp; omega
  · show decide _ = true; simp; omega
end
theorem dep_lf (l : Lf) : (tlLf l).dep ≤ 1 := by cases l <;> simp [tlLf, Tr.dep, Tr.depL]
theorem dep_at (kvs : List (Str × Lf)) (k : Str) : (tlAt kvs k).dep ≤ 2 := by
  unfold tlAt
  cases lfAt kvs k with
  | none => simp [Tr.dep, Tr.depL]
  | some l => have := dep_lf l; simp [Tr.dep, Tr.depL]; omega
theorem depL_le {n : Nat} : ∀ {ts : List Tr}, (∀ t ∈ ts, t.dep ≤ n) → Tr.depL ts ≤ n
  | [], _ => Nat.zero_le _
  | t :: ts, h => by
    have h1 := h t (List.mem_cons_self ..)
    have h2 := depL_le (ts := ts) fun u hu => h u (List.mem_cons_of_mem _ hu)
    show max t.dep (Tr.depL ts) ≤ n
    omega
theorem dep_dic (ss : List Str) (kvs : List (Str × Lf)) : (tlDic ss kvs).dep ≤ 3 := by
  have h : Tr.depL (.str "dict" :: ss.map (tlAt kvs)) ≤ 2 := depL_le fun t ht => by
    rcases List.mem_cons.mp ht with rfl | ht
    · simp [Tr.dep]
    · obtain ⟨k, _, rfl⟩ := List.mem_map.mp ht
      exact dep_at kvs k
  show Tr.depL (.str "dict" :: ss.map (tlAt kvs)) + 1 ≤ 3
  omega
theorem dep_v (l : Vl) : (tlV l).dep ≤ 4 := by
  cases l with
  | num n => simp [tlV, Tr.dep, Tr.depL]
  | dic kvs => exact Nat.le_succ_of_le (dep_dic _ _)
  | stm kvs b =>
    have h := dep_dic (ordS (kvs.map (·.1))) kvs
    show Tr.depL [.str "stream", tlDic (ordS (kvs.map (·.1))) kvs, .byt b] + 1 ≤ 4
    have : Tr.depL [.str "stream", tlDic (ordS (kvs.map (·.1))) kvs, .byt b] ≤ 3 := depL_le fun t ht => by
      simp only [List.mem_cons, List.not_mem_nil, or_false] at ht
      rcases ht with rfl | rfl | rfl
      · simp [Tr.dep]
      · exact h
      · simp [Tr.dep]
    omega
theorem dep_tell (T : Tab) : (tellT T).dep ≤ 6 := by
  have : Tr.depL ((ordN (T.map (·.1))).map (rowT T)) ≤ 5 := depL_le fun t ht => by
    obtain ⟨n, _, rfl⟩ := List.mem_map.mp ht
    show Tr.depL [.int n, .int (match get T n with | some e => e.gen | none => 0), match get T n with | some e => tlV e.val | none => .int 0] + 1 ≤ 5
    have : Tr.depL [.int n, .int (match get T n with | some e => e.gen | none => 0), match get T n with | some e => tlV e.val | none => .int 0] ≤ 4 := depL_le fun t ht => by
      simp only [List.mem_cons, List.not_mem_nil, or_false] at ht
      rcases ht with rfl | rfl | rfl
      · simp [Tr.dep]
      · simp [Tr.dep]
      · cases get T n with
        | none => simp [Tr.dep]
        | some e => exact dep_v e.val
    omega
  show Tr.depL _ + 1 ≤ 6
  omega
/-! reading behind a put -/
theorem get_put {α : Type} (T : List (Nat × α)) (n m : Nat) (e : α) : get (put T n e) m = if m = n then some e else get T m := by
  unfold put
  split
  · rename_i h
    unfold get
    induction T with
    | nil => simp at h
    | cons p r ih =>
      rw [List.map_cons, List.find?_cons, List.find?_cons]
      by_cases hp : p.1 = n
      · by_cases hm : m = n
        · subst hm; simp [hp]
        · have h1 : ¬ p.1 = m := fun x => hm (x.symm.trans hp)
          have e1 : (p.1 == n) = true := by simp [hp]
          have e2 : (p.1 == m) = false := by simp [h1]
          simp only [e1, if_true, e2, hm, if_false]
          -- the rest: entries of another number alone matter
          clear ih h
          induction r with
          | nil => rfl
          | cons q r ih =>
            rw [List.map_cons, List.find?_cons, List.find?_cons]
            by_cases hq : q.1 = n
            · have h2 : ¬ q.1 = m := fun x => hm (x.symm.trans hq)
              have e3 : (q.1 == n) = true := by simp [hq]
              have e4 : (q.1 == m) = false := by simp [h2]
              simp only [e3, if_true, e4]
              exact ih
            · have e3 : (q.1 == n) = false := by simp [hq]
              simp only [e3, Bool.false_eq_true, if_false]
              by_cases hqm : q.1 = m
              · have e4 : (q.1 == m) = true := by simp [hqm]
                simp only [e4]
              · have e4 : (q.1 == m) = false := by simp [hqm]
                simp only [e4]
                exact ih
      · have e1 : (p.1 == n) = false := by simp [hp]
        have h' : r.any (fun p => p.1 == n) = true := by
          rw [List.any_cons, e1, Bool.false_or] at h; exact h
        simp only [e1, Bool.false_eq_true, if_false]
        by_cases hm : p.1 = m
        · have e2 : (p.1 == m) = true := by simp [hm]
          have : ¬ m = n := fun x => hp (hm.trans x)
          simp only [e2, this, if_false]
        · have e2 : (p.1 == m) = false := by simp [hm]
          simp only [e2]
          exact ih h'
  · rename_i h
    unfold get
    rw [List.find?_append]
    by_cases hm : m = n
    · subst hm
      have : T.find? (fun p => p.1 == m) = none := by
        rw [List.find?_eq_none]
        intro p hp hq
        exact h (List.any_eq_true.mpr ⟨p, hp, hq⟩)
      rw [this]
      simp
    · have e2 : (n == m) = false := by simp [Ne.symm hm]
      simp only [hm, if_false]
      cases hf : T.find? fun p => p.1 == m with
      | some p => rfl
      | none => simp [e2]
theorem get_nil {α : Type} (n : Nat) : get ([] : List (Nat × α)) n = none := rfl
theorem mem_keys {α : Type} {T : List (Nat × α)} {n : Nat} : n ∈ T.map (·.1) ↔ (get T n).isSome = true := by
  constructor
  · intro h
    obtain ⟨e, h1, _⟩ := get_some h
    rw [h1]; rfl
  · intro h
    obtain ⟨e, he⟩ := Option.isSome_iff_exists.mp h
    exact List.mem_map_of_mem (f := (·.1)) (get_mem he)
theorem get_keep {T : Tab} (hn : (T.map (·.1)).Nodup) (n : Nat) : get (dropT T) n = (get T n).filter fun e => !fileS e.val := by
  unfold dropT
  induction T with
  | nil => rfl
  | cons p r ih =>
    rw [List.map_cons, List.nodup_cons] at hn
    rw [List.filter_cons]
    by_cases hp : p.1 = n
    · have e1 : (p.1 == n) = true := by simp [hp]
      have hg : get (p :: r) n = some p.2 := by unfold get; rw [List.find?_cons]; simp [e1]
      rw [hg]
      by_cases hf : fileS p.2.val = true
      · have : (!fileS p.2.val) = false := by rw [hf]; rfl
        simp only [this, Bool.false_eq_true, if_false, Option.filter_some]
        cases hx : get (r.filter fun p => !fileS p.2.val) n with
        | none => rfl
        | some e =>
          have := get_mem hx
          exact absurd (List.mem_map_of_mem (f := (·.1)) (List.mem_filter.mp this).1) (by rw [← hp] ; exact hn.1)
      · have : (!fileS p.2.val) = true := by simpa using hf
        simp only [this, if_true, Option.filter_some]
        unfold get; rw [List.find?_cons]; simp [e1]
    · have e1 : (p.1 == n) = false := by simp [hp]
      have hg : get (p :: r) n = get r n := by unfold get; rw [List.find?_cons]; simp [e1]
      rw [hg, ← ih hn.2]
      split
      · unfold get; rw [List.find?_cons]; simp [e1]
      · rfl
theorem get_lenT (T : Tab) (n : Nat) : get (lenT T) n = (get T n).map fun e => ⟨e.gen, lenV e.val⟩ := by
  unfold lenT get
  induction T with
  | nil => rfl
  | cons p r ih =>
    rw [List.map_cons, List.find?_cons, List.find?_cons]
    cases h : p.1 == n with
    | true => simp [h]
    | false => simpa [h] using ih



/-! what stands last, twice -/
def seen (e : Ent) : LEnt := (e.gen, if roomV e.val = true then none else some (tlV (shapeV e.val)))
def Rel (T : Tab) (Lt : LTab) : Prop := ∀ n, 0 < n → get Lt n = (get T n).map seen
theorem rel_first {T : Tab} {Lt : LTab} (h : Rel T Lt) (p : Pc) : Rel (tableStep T p) (firstStep Lt p) := by
  intro n hn
  unfold tableStep firstStep
  rw [get_put]
  by_cases hp : 0 < p.num
  · rw [if_pos hp, get_put]
    by_cases e : n = p.num
    · rw [if_pos e, if_pos e]; rfl
    · rw [if_neg e, if_neg e]; exact h n hn
  · rw [if_neg hp, if_neg (by omega)]
    exact h n hn
theorem prs_cons (x : UInt8) (b : List UInt8) : prsOf (x :: b) = (if 10 ≤ x.toNat then [(x.toNat / 10, x.toNat)] else []) ++ prsOf b := by
  unfold prsOf
  rw [List.map_cons, List.filter_cons]
  by_cases h : 10 ≤ x.toNat <;> simp [h]
theorem rel_codes (beg fin : Nat) : ∀ (b : List UInt8) {T : Tab} {Lt : LTab}, Rel T Lt → Rel (((prsOf b).map fun q => (⟨q.1, 0, beg, fin, .num q.2⟩ : Pc)).foldl tableStep T) (b.foldl codeStep Lt)
  | [], _, _, h => h
  | x :: b, T, Lt, h => by
    rw [prs_cons, List.foldl_cons]
    by_cases hx : 10 ≤ x.toNat
    · rw [if_pos hx]
      have h1 := rel_first h ⟨x.toNat / 10, 0, beg, fin, .num x.toNat⟩
      have e : codeStep Lt x = firstStep Lt ⟨x.toNat / 10, 0, beg, fin, .num x.toNat⟩ := by unfold codeStep; rw [if_pos hx]; rfl
      rw [e]
      exact rel_codes beg fin b h1
    · rw [if_neg hx]
      have e : codeStep Lt x = Lt := by unfold codeStep; rw [if_neg hx]
      rw [e]
      exact rel_codes beg fin b h
theorem pack_opens {p : Pc} (h : LawV p.val) : packOf p = if opensV p.val = true then (prsOf (octV p.val)).map fun q => (⟨q.1, 0, p.beg, p.fin, .num q.2⟩ : Pc) else [] := by
  obtain ⟨num, gen, beg, fin, val⟩ := p
  have h1 := lawv_obj h
  cases val with
  | num n => rfl
  | dic kvs => rfl
  | stm kvs b =>
    have h1 : isWord "ObjStm" (lfAt kvs "Type") = roomV (.stm kvs b) := h1
    show (if isWord "ObjStm" (lfAt kvs "Type") = true ∧ b.head? ≠ some 9 then _ else _) = (if (roomV (.stm kvs b) && decide (b.head? ≠ some 9)) = true then _ else _)
    rw [h1]
    by_cases h2 : roomV (.stm kvs b) = true
    · by_cases h3 : b.head? = some 9
      · rw [if_neg (by simp [h3]), if_neg (by simp [h3])]
      · rw [if_pos ⟨h2, h3⟩, if_pos (by simp [h2, h3])]; rfl
    · rw [if_neg (by simp [h2]), if_neg (by simp [h2])]
theorem rel_piece {T : Tab} {Lt : LTab} (h : Rel T Lt) {p : Pc} (hp : LawV p.val) : Rel ((p :: packOf p).foldl tableStep T) (lastStep Lt p) := by
  rw [List.foldl_cons, pack_opens hp]
  unfold lastStep
  have h1 := rel_first h p
  by_cases ho : opensV p.val = true
  · rw [if_pos ho, if_pos ho]
    exact rel_codes _ _ _ h1
  · rw [if_neg ho, if_neg ho]
    exact h1
theorem rel_all : ∀ (ps : List Pc) {T : Tab} {Lt : LTab}, Rel T Lt → (∀ p ∈ ps, LawP p) → Rel ((allOf ps).foldl tableStep T) (ps.foldl lastStep Lt)
  | [], _, _, h, _ => h
  | p :: ps, T, Lt, h, hl => by
    have e : allOf (p :: ps) = (p :: packOf p) ++ allOf ps := rfl
    rw [e, List.foldl_append, List.foldl_cons (f := lastStep)]
    exact rel_all ps (rel_piece h (hl p (List.mem_cons_self ..)).val) fun q hq => hl q (List.mem_cons_of_mem _ hq)
/-! tables as the law fills them -/
structure TabOk (T : Tab) : Prop where
  lt : ∀ k ∈ T.map (·.1), k < 4
  pos : ∀ k ∈ T.map (·.1), 0 < k
  nd : (T.map (·.1)).Nodup
  val : ∀ p ∈ T, LawV p.2.val
theorem put_mem {α : Type} {T : List (Nat × α)} {n : Nat} {e : α} {p : Nat × α} (h : p ∈ put T n e) : p ∈ T ∨ p.2 = e := by
  unfold put at h
  split at h
  · obtain ⟨q, hq, rfl⟩ := List.mem_map.mp h
    by_cases hn : (q.1 == n) = true
    · right; simp [hn]
    · left; simp [hn]; exact hq
  · rcases List.mem_append.mp h with h | h
    · exact .inl h
    · right; rw [List.mem_singleton.mp h]
theorem tab_step {T : Tab} (h : TabOk T) {p : Pc} (hp : LawP p) : TabOk (tableStep T p) := by
  unfold tableStep
  split
  · rename_i h0
    refine ⟨fun k hk => ?_, fun k hk => ?_, put_nodup h.nd _ _, fun q hq => ?_⟩
    · rcases (put_keys _ _ _ k).mp hk with rfl | h'
      · exact hp.num
      · exact h.lt k h'
    · rcases (put_keys _ _ _ k).mp hk with rfl | h'
      · exact h0
      · exact h.pos k h'
    · rcases put_mem hq with h' | h'
      · exact h.val q h'
      · rw [h']; exact hp.val
  · exact h
theorem tab_fold : ∀ (qs : List Pc) {T : Tab}, TabOk T → (∀ p ∈ qs, LawP p) → TabOk (qs.foldl tableStep T)
  | [], _, h, _ => h
  | q :: qs, _, h, hl => tab_fold qs (tab_step h (hl q (List.mem_cons_self ..))) fun p hp => hl p (List.mem_cons_of_mem _ hp)
theorem law_pack {p : Pc} (h : LawP p) : ∀ q ∈ packOf p, LawP q := by
  intro q hq
  rw [pack_opens h.val] at hq
  split at hq
  · rename_i ho
    obtain ⟨r, hr, rfl⟩ := List.mem_map.mp hq
    refine ⟨?_, .inl ⟨_, rfl⟩⟩
    unfold prsOf at hr
    obtain ⟨k, hk, rfl⟩ := List.mem_map.mp hr
    obtain ⟨x, hx, rfl⟩ := List.mem_map.mp (List.mem_filter.mp hk).1
    exact code_num x (oct40 h.val ho x hx)
  · cases hq
theorem law_all {ps : List Pc} (h : ∀ p ∈ ps, LawP p) : ∀ q ∈ allOf ps, LawP q := by
  intro q hq
  unfold allOf at hq
  obtain ⟨p, hp, hq⟩ := List.mem_flatMap.mp hq
  rcases List.mem_cons.mp hq with rfl | hq
  · exact h _ hp
  · exact law_pack (h p hp) q hq
theorem tab_all {ps : List Pc} (h : ∀ p ∈ ps, LawP p) : TabOk (tableOf (allOf ps)) := tab_fold _ ⟨by simp, by simp, by simp, by simp⟩ (law_all h)
theorem drop_keys (T : Tab) : ((dropT T).map (·.1)).Sublist (T.map (·.1)) := List.Sublist.map _ List.filter_sublist
theorem len_keysT (T : Tab) : (lenT T).map (·.1) = T.map (·.1) := by unfold lenT; rw [List.map_map]; rfl
structure MendOk (T : Tab) : Prop where
  nd : (T.map (·.1)).Nodup
  lt : ∀ k ∈ T.map (·.1), k < 64
  good : ∀ p ∈ T, GoodV p.2.val
  size : T.length < 64
theorem mend_ok {T : Tab} (h : TabOk T) : MendOk (lenT (dropT T)) := by
  refine ⟨?_, ?_, ?_, ?_⟩
  · rw [len_keysT]; exact h.nd.sublist (drop_keys T)
  · intro k hk
    rw [len_keysT] at hk
    have := h.lt k ((drop_keys T).subset hk)
    omega
  · intro p hp
    unfold lenT at hp
    obtain ⟨q, hq, rfl⟩ := List.mem_map.mp hp
    unfold dropT at hq
    obtain ⟨h1, h2⟩ := List.mem_filter.mp hq
    have hv := h.val q h1
    have hf : fileS q.2.val = false := by simpa using h2
    rw [lawv_file hv] at hf
    show GoodV (lenV q.2.val)
    rw [lawv_len hv hf]
    exact lawv_shape hv
  · have h1 : (lenT (dropT T)).length ≤ T.length := by unfold lenT; rw [List.length_map]; exact List.length_filter_le _ _
    have h2 := len_keys h.lt h.nd
    omega
theorem ok_ps {ps : List Pc} (hl : ∀ p ∈ ps, LawP p) (hn : ps.length ≤ 5) : OkPs ps := by
  have ht := tab_all hl
  refine ⟨hn, fun p hp => lawv_oct (hl p hp).val, fun p hp => lawv_cross (hl p hp).val, fun p hp => lawv_cat (law_all hl p hp).val, ?_, fun p hp => ?_⟩
  · have := len_keys ht.lt ht.nd; omega
  · unfold dropT at hp
    exact lawv_good (ht.val p (List.mem_filter.mp hp).1)
/-- the plain law -/
theorem tell_due {ps : List Pc} (hl : ∀ p ∈ ps, LawP p) (hk : (∀ k ∈ (lastOf ps).map (·.1), k < 4) ∧ ((lastOf ps).map (·.1)).Nodup) : tellT (lenT (dropT (tableOf (allOf ps)))) = .tup (dueOf (lastOf ps)) := by
  have ht := tab_all hl
  have hr : Rel (tableOf (allOf ps)) (lastOf ps) := rel_all ps (T := []) (Lt := []) (fun n _ => rfl) hl
  revert ht hr hk
  generalize tableOf (allOf ps) = T
  generalize lastOf ps = Lt
  intro hk ht hr
  have hg : ∀ n, get (lenT (dropT T)) n = ((get T n).filter fun e => !fileS e.val).map fun e => ⟨e.gen, lenV e.val⟩ := fun n => by rw [get_lenT, get_keep ht.nd]
  have hkey : ∀ n, 0 < n → (n ∈ (lenT (dropT T)).map (·.1) ↔ n ∈ Lt.map (·.1) ∧ dueOk Lt n = true) := by
    intro n hn
    rw [mem_keys, mem_keys, hg, hr n hn]
    unfold dueOk
    rw [hr n hn]
    cases h : get T n with
    | none => simp
    | some e =>
      have hv := ht.val _ (get_mem h)
      have hf := lawv_file hv
      simp only [Option.filter_some, Option.map_some, Option.isSome_some, true_and, hn, decide_true, Bool.true_and]
      unfold seen
      cases hx : roomV e.val with
      | true => simp [hf, hx]
      | false => simp [hf, hx]
  have hz : 0 ∉ (lenT (dropT T)).map (·.1) := by
    intro h
    rw [len_keysT] at h
    exact absurd (ht.pos 0 ((drop_keys T).subset h)) (by simp)
  unfold tellT dueOf
  congr 1
  have e1 : ordN ((lenT (dropT T)).map (·.1)) = (ordN (Lt.map (·.1))).filter (dueOk Lt) := by
    unfold ordN
    rw [List.filter_filter]
    apply List.filter_congr
    intro n _
    by_cases hn : 0 < n
    · have := hkey n hn
      rw [Bool.eq_iff_iff, decide_eq_true_iff, Bool.and_eq_true, decide_eq_true_iff, this]
      exact And.comm
    · obtain rfl : n = 0 := by omega
      rw [decide_eq_false hz]
      have : dueOk Lt 0 = false := by unfold dueOk; simp
      rw [this, Bool.false_and]
  rw [e1]
  apply List.map_congr_left
  intro n hn
  obtain ⟨hn1, hn2⟩ := List.mem_filter.mp hn
  have hn0 : 0 < n := by
    unfold dueOk at hn2
    simp only [Bool.and_eq_true, decide_eq_true_eq] at hn2
    exact hn2.1
  have hr' := hr n hn0
  unfold rowT dueRow
  rw [hg, hr']
  cases h : get T n with
  | none =>
    unfold dueOk at hn2
    rw [hr', h] at hn2
    simp at hn2
  | some e =>
    have hv := ht.val _ (get_mem h)
    have hf := lawv_file hv
    cases hx : roomV e.val with
    | true =>
      unfold dueOk at hn2
      rw [hr', h] at hn2
      unfold seen at hn2
      simp [hx] at hn2
    | false =>
      rw [hx] at hf
      have hl := lawv_len hv hx
      simp only [Option.filter_some, hf, Bool.not_false, if_true, Option.map_some, seen, hx, Bool.false_eq_true, if_false, hl]




section
variable {c : Wc} {f : Fc} {A : Around} {m : Loc} {M I : Led} {E : Value → Shared → Prop}
/-! a walk whose lists take appends -/
theorem init_WalkP (k : KF c.K) {x dx : Addr} (hx : (x, instObj 440 dx) ∈ I) :
    Fn c 90 (.ref 437) [.ref x] ((dx, dictOf [] 0) :: M) I (fun r M1 I1 => r = .none ∧ I1 = I ∧ ∃ o' a b oa ob, M1 = (b, ob) :: (a, oa) :: (dx, o') :: M ∧ LP [] oa ∧ LP [] ob ∧ SD c [("pieces", .ref a), ("trailers", .ref b)] o') := by
  refine .mk fun f A m E ar => ?_
  refine enter (binds := [("self", .ref x)]) (loc := [("self", .ref x)]) rfl k.f_Walk_init__ ar (by decide) (by intros; kernel_rfl) (locs (by kernel_rfl)) (by decide +kernel) (by kernel_rfl) (by kernel_rfl) (by kernel_rfl) fun q A' R ar' hR => ?_
  refine s_cons ?_
  repeat walk_at "mE"
  refine p_newList (by decide) fun a oa ha => ?_
  repeat walk_at "mE"
  refine r_setattr (M' := fun o' => (a, oa) :: (dx, o') :: M) hx (fun _ => .tail .head) SD.nil (k.set (by decide +kernel)) (Nat.le_of_ble_eq_true rfl) fun o1 h1 => ?_
  change SD c [("pieces", .ref a)] o1 at h1
  repeat walk_at "mE"
  refine p_newList (by decide) fun b ob hb => ?_
  repeat walk_at "mE"
  refine r_setattr (M' := fun o' => (b, ob) :: (a, oa) :: (dx, o') :: M) hx (fun _ => .tail (.tail .head)) h1 (k.set (by decide +kernel)) (Nat.le_of_ble_eq_true rfl) fun o1 h1 => ?_
  have e : putK "trailers" (.ref b) ([("pieces", .ref a)] : List (Str × Value)) = ([("pieces", .ref a), ("trailers", .ref b)] : List (Str × Value)) := by kernel_rfl
  rw [e] at h1
  repeat walk_at "mE"
  exact ⟨rfl, rfl, _, a, b, oa, ob, rfl, ha, hb, h1⟩
theorem mk_WalkP (k : KF c.K) {r : Nat} (ar : Ar f A r) (hr : r < 89) {Q : Value → Led → Led → Prop} (h : ∀ x I1 a b oa ob, I ⊆ I1 → Inst c I1 440 [("pieces", .ref a), ("trailers", .ref b)] x → LP [] oa → LP [] ob → Q (.ref x) ((b, ob) :: (a, oa) :: M) I1) : Te c f A m M I (call (.ref 440) []) Q E :=
  (c_make k.mk_Walk k.in_Walk (k.fn (by decide +kernel)) fun x dx => (init_WalkP k (.head _)).cd (ar.make (by omega)) (by omega) (by decide) fun v' M1 I1 ⟨e1, e2, o', a, b, oa, ob, e3, ha, hb, hs⟩ => ⟨e1, by
    subst e2 e3
    exact ⟨_, _, Shed.freeze (.tail (.tail .head)), h x _ a b oa ob (fun p hp => .tail _ (.tail _ hp)) ⟨dx, o', .tail _ (.head _), .head _, hs⟩ ha hb⟩⟩).post
/-- a slice of a list that lies in the ground -/
theorem i_slice0 {value slice : Expr} {l sl : Addr} {o so : Obj} {vs : List Value} {k : Int} {t : Tok} {Q : Value → Led → Led → Prop} (hg : f.h₀.get? l = some o) (hout : f.outer = []) (hl : LO vs o) (hsl : (sl, so) ∈ M ++ I) (hso : SlO .none (.int k t) so) (hk : 0 ≤ k) (hz : vs.length ≤ sizeLine)
    (hs : subscripted slice false (.ref l) (.ref sl) = operate [.ref sl, .ref l] (getItem (.ref l) (.ref sl))) (ht : ∀ r, letTemporaryGo value (.ref l) r = pure ()) (h : ∀ a o' us, LO us o' → (∀ ns, IntsAre vs ns → IntsAre us (ns.take k.toNat)) → Q (.ref a) ((a, o') :: M) I) :
    Te c f A m M I (subscriptTail value slice (.ref l) (.ref sl)) Q E := .mk fun s ⟨g, L⟩ => by
  have hh : s.heap.get? l = some o := L.F.keep _ _ (L.B.turn.other _ _ hg (by rw [hout]; simp))
  have hL : s.heap.IsList l vs.toArray := ⟨o, hh, hl.1, hl.2⟩
  refine subscriptTail_ops hL.typeIs list_getitem_lookup (wpAny_getItem_list_slice hL (show s.heap.IsSliceOf sl .none (.int k t) .none from ⟨so, L.g hsl, by rw [hso], by rw [hso]⟩) .none (.int k t) .none (by simp) ?_ (by simpa using hz)) hs ht
  exact ⟨_, _, _, _, rfl, ⟨g, L.pushM _⟩, h _ _ (slicePick vs.toArray none (some k) none).toList ⟨rfl, 0, rfl⟩ fun ns hi => kmk_upto hi hk⟩
/-- a list comprehension that a local name takes at once -/
theorem s_assignU {nx : Str} {pos' spos : Pos} {elt target iter : Expr} {ifs : List Expr} {scope : Scope} {pos : Pos} {cl : List (Str × Addr)} {Q : Flow → Loc → Led → Led → Prop} (hx : f.env.kindOf nx = some .local) (hsw : swapsWith (.ListComp elt [⟨target, iter, ifs, 0⟩] scope pos) (some (.Name nx pos')) spos.line f.env = pure true) (hclos : closureFor scope f.env = pure cl) (hcell : ∀ y ∈ scope.names, y.2 ≠ .cell) (hkind : scope.kind = .function)
    (hnames : ∀ x ∈ scope.names, x.2 = .local → scope.names.lookup x.1 = some .local) (hs : ∀ x, foldedSetIterable iter f.env x = pure x)
    (h : Te c f A m M I (eval iter f.env) (kIt c f A m E (CompOn c f A target elt ifs scope cl (kPut m nx Q) m)) E) : Ts c f A m M I (exec (.Assign [.Name nx pos'] (.ListComp elt [⟨target, iter, ifs, 0⟩] scope pos) spos) f.env) Q E := by
  refine .mk fun s L => ?_
  rw [exec_Assign_Name_used _ _ _ _ hsw, arm_evalThenUse_ListComp]
  refine wpAny_bind (wpAny_standAt (wpAny_bind (wpAny_bind (wpAny_mono (Q := fun _ s' => ∃ h' tk m' M' I', s' = { s with heap := h', toks := tk } ∧ Live c f m' M' I' h' ∧ Q .next m' M' I') (E := E) ?_ (fun _ s' q => wpAny_pure (wpAny_pure q)) fun _ _ e => e))))
  refine wpAny_comprehension_free (use := some (assign (.Name nx pos') f.env)) rfl hs hclos hkind hnames (h.step L fun xv h1 t1 M1 I1 L1 q => q.step (s := { s with heap := h1, toks := t1 }) L1 fun itv h2 t2 M2 I2 L2 q => ?_)
  refine wpAny_newObj_type (wpAny_newFunctionEnv hcell (by intro y hy; simp at hy) (fun h₁ hns₁ hsb₁ => ?_) hkind)
  obtain ⟨oC, hoC, L5⟩ := comp_ground L2 rfl rfl hns₁ hsb₁
  refine comp_run q L5 hoC ⟨rfl, 0, rfl⟩ fun M' I' oC' lm h3 t3 L3 hC hq => ?_
  refine wpAny_mono ((as_name (E := E) (Q := fun _ m2 M2 I2 => m2 = (nx, .ref _) :: m ∧ M2 = (_, oC') :: M' ∧ I2 = I') (n_local hx ⟨rfl, rfl, rfl⟩)).run { s with heap := h3, toks := t3 } L3) (fun _ s9 q9 => ?_) fun _ _ e => e
  obtain ⟨h9, t9, m9, M9, I9, rfl, L9, rfl, rfl, rfl⟩ := q9
  exact ⟨_, LCg.NsObj.ns hC (L9.gM (.head _)), fun h4 hs4 => ⟨h4, t9, _, _, _, rfl, L9.lose .head hs4.extBut, hq⟩⟩
theorem TIs.notNone {I : Led} {t : Tr} {v : Value} (h : TIs I t v) : (v == .none) = false := by
  cases h <;> rfl
def beforeT (p : Pc) : Tr := .tup [tlP p, tlV p.val]
set_option maxHeartbeats 1000000 in
theorem law_body (k : KF c.K) (X : XF c.K) {L : Addr} {q : FqL} {sc : Addr} {osc : Obj} {svs : List Value} {xs : List Int} {oc : Obj} (ar' : Ar (fL L q) A 1)
    (hg : q.g.get? sc = some osc) (hls : LO svs osc) (hxs : IntsAre svs xs) (hx : xs.length ≤ 63) (hoc : oc.data = .cell none) :
    Ts c (fL L q) A [("script", .ref sc)] ((L, oc) :: M) I (execs d_law.body (fL L q).env) (fun fl _ _ _ => retOf fl = .bool true) (fun _ _ => False) := by
  refine s_cons ?_
  refine s_assignU (cl := []) (by kernel_rfl) (by kernel_rfl) (by kernel_rfl) (by decide +kernel) (by kernel_rfl) (by decide +kernel) (fun _ => by kernel_rfl) ?_
  repeat walk_at "mE"
  refine e_slice ?_
  repeat walk_at "mE"
  intro sa so hso
  have hxl : svs.length = xs.length := hxs.length
  refine i_slice0 hg rfl hls (List.mem_append_right _ (.head _)) hso (by decide) (line_of (by omega)) (by kernel_rfl) (fun _ => by kernel_rfl) fun a oa us hus husI => ?_
  have hui : IntsAre us (xs.take 60) := husI _ hxs
  have hul : us.length ≤ 60 := by rw [hui.length, List.length_take]; omega
  refine p_list (List.mem_append_left _ (.head _)) hus ar'.hd fun it oi O Wl h0 => ?_
  refine ⟨it, oi, _, _, _, O, _, fun j ys M1 I1 => M1 = (a, oa) :: (L, oc) :: M ∧ I1 = (sa, so) :: I ∧ ∃ js, js.length = j ∧ IntsAre ys js, rfl, rfl, Wl _ _, h0, ⟨rfl, rfl, [], rfl, .nil⟩, line_of (by omega), ?_, ?_, ?_⟩
  · rintro j ys M1 I1 ⟨rfl, rfl, _⟩
    exact src1 (.head _)
  · rintro j ys M1 I1 v o' C oC D oD lm hj hv ⟨rfl, rfl, js, hjl, hys⟩ hno hlo Ry Rn hRy hRn
    obtain ⟨n, t, hn, rfl⟩ := ints_at' hui hv
    refine as_name ?_
    refine cn_local (fun o' => .head) hno (by kernel_rfl) (by kernel_rfl) fun oC1 hno1 => ⟨rfl, ?_⟩
    refine tt_nil ?_
    refine ite_t ?_
    repeat walk_at "mE"
    refine ce_local (List.mem_append_left _ (.head _)) hno1 .here (by kernel_rfl) (by kernel_rfl) (by kernel_rfl) ?_
    repeat walk_at "mE"
    refine n_intint ?_
    repeat walk_at "mE"
    refine o_mod (by decide) fun t2 => ?_
    exact hRy.go ⟨oC1, _, rfl, ⟨_, hno1⟩, rfl, rfl, js ++ [n.fmod 1000003], by rw [List.length_append, hjl]; rfl, hys.append (.cons _ _ .nil)⟩
  rintro ys M1 I1 D oD ⟨rfl, rfl, ns, hnl, hys⟩ hlo
  have hns : ns.length < 1000 := by omega
  have hyl : ys.length ≤ 60 := by rw [hys.length]; omega
  refine .freeze .head (.shed (.drop .head) ?_)
  -- pen
  repeat walk_at "mE"
  refine n_sum (List.mem_append_right _ (.head _)) hlo hys ar'.hd fun ts => ?_
  repeat walk_at "mE"
  refine o_mod (by decide) fun tm => ?_
  repeat walk_at "mE"
  refine n_list (Nat.le_of_ble_eq_true rfl) fun pen op hop => ?_
  have hpen : PenO ((D, oD) :: (sa, so) :: I) ns (ns.sum.fmod 997) 0 op := ⟨_, _, D, oD, ys, hop, .head _, hlo, hys⟩
  generalize ns.sum.fmod 997 = cc at hpen
  repeat walk_at "mE"
  refine mk_WalkP k ar' (by decide) fun wk I1 pl tl opl otl s1 iw hpl htl => ?_
  repeat walk_at "mE"
  refine d_new fun ld old _ hld => ?_
  repeat walk_at "mE"
  refine n_tuple (Nat.le_of_ble_eq_true rfl) fun ta ota hta => ?_
  refine u_pair ar'.hd (.head _) hta ?_
  refine as_name (n_local (by kernel_rfl) ?_)
  refine as_name ?_
  refine n_cell (M' := fun o' => (ld, old) :: (tl, otl) :: (pl, opl) :: (pen, op) :: (L, o') :: M) (by kernel_rfl) (fun _ => .tail (.tail (.tail (.tail .head)))) hoc (by kernel_rfl) fun oc1 hoc1 => ?_
  have s2 : I1 ⊆ (ta, ota) :: I1 := fun p hp => .tail _ hp
  have pm : ((ld, old) :: (tl, otl) :: (pl, opl) :: (pen, op) :: (L, oc1) :: M).Perm ((pen, op) :: (pl, opl) :: (tl, otl) :: (ld, old) :: (L, oc1) :: M) := by
    refine (List.Perm.swap _ _ _).trans ?_
    refine List.Perm.trans (l₂ := (pen, op) :: (tl, otl) :: (ld, old) :: (pl, opl) :: (L, oc1) :: M) ?_ ?_
    · refine List.Perm.trans (List.Perm.cons _ (List.Perm.cons _ (List.Perm.swap _ _ _))) ?_
      refine List.Perm.trans (List.Perm.cons _ (List.Perm.swap _ _ _)) ?_
      exact List.Perm.swap _ _ _
    · refine List.Perm.cons _ ?_
      refine List.Perm.trans (List.Perm.cons _ (List.Perm.swap _ _ _)) ?_
      exact List.Perm.swap _ _ _
  refine .shed (fun _ _ _ _ L => L.perm pm) ?_
  -- the loop
  refine s_cons ?_
  refine s_for ?_ (fun _ => by kernel_rfl)
  repeat walk_at "mE"
  refine (fn_draw k (M' := fun o2 => (pen, o2) :: (pl, opl) :: (tl, otl) :: (ld, old) :: (L, oc1) :: M) (hpen.mono fun p hp => s2 (s1 hp)) (fun _ => .head) (by decide) (by decide) hns).te ar' (by decide) (by decide) fun r M1 I2 ⟨e1, op1, e2, hp1, t1, e3⟩ => ?_
  obtain ⟨b0, b6⟩ := draw_lt ns cc 0 (many := 6) (by decide)
  subst e1 e2 e3
  obtain ⟨n, hn⟩ : ∃ n : Nat, drawN ns cc 0 6 = (n : Int) := ⟨(drawN ns cc 0 6).toNat, by omega⟩
  rw [hn] at b6 ⊢
  repeat walk_at "mE"
  refine n_range fun ra ro hro => ?_
  refine p_range (List.mem_append_right _ (.head _)) hro (by omega) ar'.hd fun it2 oi2 O2 Wl2 h02 => ?_
  have iw2 : Inst c ((ta, ota) :: I1) 440 [("pieces", .ref pl), ("trailers", .ref tl)] wk := iw.mono s2
  refine ⟨it2, oi2, _, _, _, O2, _, LawSt c L M ((ta, ota) :: I1) ns cc pen wk pl tl ld oc1 otl, rfl, rfl, Wl2 _ _ trivial, h02, ⟨.there (by decide +kernel) .here, .here, fun p hp => .tail _ hp, op1, opl, old, 1, [], [], [], rfl, hp1.mono fun p hp => .tail _ hp, by omega, hpl, .nil, rfl, (fun p hp => by cases hp), hld, .nil⟩, ?_, ?_, ?_⟩
  · rintro j m2 M2 I2 _ p hp
    cases hp
  · rintro j m2 M2 I2 v o' hj ⟨t, rfl⟩ H
    intro R hR
    refine as_name (n_local (by kernel_rfl) ?_)
    exact law_turn k ar' iw2 hoc1 (by omega) hns H hR
  rintro m2 M2 I2 ⟨k1, k2, s0, op2, opl2, old2, spot, ps, vs, kvs, rfl, hp2, hsp, hpl2, hps, hpn, hlaw, hd2, hls⟩
  have iw3 := iw2.mono s0
  clear hpen hp1 hpl
  -- the trailers
  walk_at "mE"
  refine s_cons (Ts.mono (Q := fun fl m3 M3 I3 => fl = .next ∧ m3 = m2 ∧ I2 ⊆ I3 ∧ ∃ op3 otl2 tvs, M3 = (pen, op3) :: (pl, opl2) :: (tl, otl2) :: (ld, old2) :: (L, oc1) :: M ∧ LP tvs otl2 ∧ tvs.length ≤ 1 ∧ ∀ v ∈ tvs, TrIs c I3 v) ?_ ?_)
  · refine s_if ?_
    repeat walk_at "mE"
    refine (fn_draw k (M' := fun o2 => (pen, o2) :: (pl, opl2) :: (tl, otl) :: (ld, old2) :: (L, oc1) :: M) hp2 (fun _ => .head) (by decide) (by omega) hns).te ar' (by decide) (by decide) fun r M1 I3 ⟨e1, op3, e2, hp3, t3, e3⟩ => ?_
    subst e1 e2 e3
    repeat walk_at "mE"
    refine c_eq ?_
    generalize (drawN ns cc spot 2 == 0) = bb
    repeat walk_at "mE"
    cases bb with
    | false =>
      refine ite_f ?_
      repeat walk_at "mE"
      exact ⟨rfl, rfl, fun p hp => hp, op3, otl, [], rfl, htl, Nat.zero_le _, fun v hv => by cases hv⟩
    | true =>
      refine ite_t ?_
      repeat (first | walk_at "mE" | walk_at "mGet")
      refine gm_list (List.mem_append_left _ (.tail _ (.tail _ (.head _)))) htl PySem.F.slot_list_append PySem.F.type_list_append ?_
      repeat walk_at "mE"
      rename_i t99
      refine e_dict rfl rfl (by simp) (Nat.le_of_ble_eq_true rfl) fun d od hod => ?_
      repeat walk_at "mE"
      refine ⟨od, _, rfl, hod, by rfl, show (["Info", "Size"] : List Str).Nodup by decide +kernel, fun o4 ho4 => ?_⟩
      refine .freeze .head ?_
      repeat walk_at "mE"
      refine n_tuple (Nat.le_of_ble_eq_true rfl) fun t4 o5 h5 => ?_
      repeat walk_at "mE"
      refine p_append (M' := fun o2 => (pen, op3) :: (pl, opl2) :: (tl, o2) :: (ld, old2) :: (L, oc1) :: M) (fun _ => .tail (.tail .head)) htl (Nat.zero_le _) fun otl2 htl2 => ?_
      repeat walk_at "mE"
      refine ⟨rfl, rfl, fun p hp => .tail _ (.tail _ hp), op3, otl2, [.ref t4], rfl, htl2, Nat.le_refl _, fun v hv => ?_⟩
      obtain rfl := List.mem_singleton.mp hv
      exact ⟨t4, o5, _, d, rfl, .head _, h5, o4, _, .tail _ (.head _), ho4, .cons ⟨_, rfl⟩ (.cons ⟨_, rfl⟩ .nil)⟩
  rintro fl m3 M3 I3 ⟨rfl, rfl, s3, op3, otl2, tvs, rfl, htl2, htn, htv⟩
  have iw4 := iw3.mono s3
  replace hps := hps.mono s3
  replace hls := hls.mono s3
  have hkl : (∀ k ∈ (lastOf ps).map (·.1), k < 4) ∧ ((lastOf ps).map (·.1)).Nodup := by
    have : ∀ (qs : List Pc) (T : LTab), (∀ p ∈ qs, LawP p) → (∀ k ∈ T.map (·.1), k < 4) → (T.map (·.1)).Nodup → (∀ k ∈ (qs.foldl lastStep T).map (·.1), k < 4) ∧ ((qs.foldl lastStep T).map (·.1)).Nodup := by
      intro qs
      induction qs with
      | nil => intro T _ h2 h3; exact ⟨h2, h3⟩
      | cons q qs ih =>
        intro T h1 h2 h3
        have h4 := keys_step (h1 q (List.mem_cons_self ..)) h2 h3
        exact ih _ (fun p hp => h1 p (List.mem_cons_of_mem _ hp)) h4.1 h4.2
    exact this ps [] hlaw (by simp) (by simp)
  have hkz : kvs.length ≤ 4 := by rw [hls.length]; exact len_keys hkl.1 hkl.2
  refine .freeze (.tail (.tail (.tail .head))) (.freeze (.tail (.tail (.tail .head))) ?_)
  have s4 : I3 ⊆ (L, oc1) :: (ld, old2) :: I3 := fun p hp => .tail _ (.tail _ hp)
  walk_at "mE"
  refine s_assign (Te.mono (Te.post (Q := fun v M4 I4 => M4 = (pen, op3) :: (pl, opl2) :: (tl, otl2) :: M ∧ (L, oc1) :: (ld, old2) :: I3 ⊆ I4 ∧ TIs I4 (.tup (dueOf (lastOf ps))) v) ?_) fun due M4 I4 ⟨e1, s5, hdue⟩ => ?_) (by kernel_rfl) (by kernel_rfl)
  · repeat walk_at "mE"
    refine e_comp (cl := [("last", L)]) (by kernel_rfl) (by decide +kernel) (by kernel_rfl) (by decide +kernel) (fun _ => by kernel_rfl) ?_
    repeat walk_at "mE"
    refine e_cell (by kernel_rfl) (.head _) hoc1 (by kernel_rfl) (by kernel_rfl) ?_
    repeat walk_at "mE"
    refine k_sortedDI (List.mem_append_right _ (.tail _ (.head _))) hd2 ar'.hd (by omega) fun sl osl vs' ks hsl hvs' hperm hsort => ?_
    have hks : ks = (ordN ((lastOf ps).map (·.1))).map fun (k : Nat) => (k : Int) := ord_eq hkl.2 (fun k hk => by have := hkl.1 k hk; omega) (by rw [List.map_map]; rw [hls.keys] at hperm; exact hperm) hsort
    have hvl : vs'.length ≤ 4 := by rw [hvs'.length, hperm.length_eq, List.length_map]; exact hkz
    refine p_list (List.mem_append_left _ (.head _)) hsl ar'.hd fun it3 oi3 O3 Wl3 h03 => ?_
    refine ⟨it3, oi3, _, _, _, O3, _, fun j ys M5 I5 => M5 = (sl, osl) :: (pen, op3) :: (pl, opl2) :: (tl, otl2) :: M ∧ (L, oc1) :: (ld, old2) :: I3 ⊆ I5 ∧ TIss I5 ((((ordN ((lastOf ps).map (·.1))).take j).filter (dueOk (lastOf ps))).map (dueRow (lastOf ps))) ys, rfl, rfl, Wl3 _ _, h03, ⟨rfl, fun p hp => hp, .nil⟩, line_of (by omega), ?_, ?_, ?_⟩
    · rintro j ys M5 I5 ⟨rfl, _, _⟩
      exact src1 (.head _)
    · rintro j ys M5 I5 v o' C oC D' oD' lm hj hvj ⟨rfl, hsub, hts⟩ hno hlo' Ry Rn hRy hRn
      obtain ⟨n', t, hn', rfl⟩ := ints_at' hvs' hvj
      rw [hks, List.getElem?_map] at hn'
      obtain ⟨q, hq, rfl⟩ := Option.map_eq_some_iff.mp hn'
      have hqT : q ∈ (lastOf ps).map (·.1) := by
        have := List.mem_of_getElem? hq
        unfold ordN at this
        rw [List.mem_filter] at this
        simpa using this.2
      have hls5 : LsIs I5 (lastOf ps) kvs := hls.mono fun p hp => hsub (s4 hp)
      obtain ⟨e, v', he, hv', a1, oa1, t1', x1, rfl, hma, hoa1, hx1⟩ : ∃ e v', get (lastOf ps) q = some e ∧ valueAt kvs (q : Int) = some v' ∧ LEntIs I5 e v' := by
        rcases hls5.at q with ⟨h1, _⟩ | h1
        · obtain ⟨e0, h2, _⟩ := get_some hqT
          rw [h1] at h2; cases h2
        · exact h1
      have hm5 : (ld, old2) ∈ I5 := hsub (.tail _ (.head _))
      have ho5 : (L, oc1) ∈ I5 := hsub (.head _)
      have htk : (ordN ((lastOf ps).map (·.1))).take (j + 1) = (ordN ((lastOf ps).map (·.1))).take j ++ [q] := by rw [List.take_add_one, hq]; rfl
      refine as_name ?_
      refine cn_local (fun o' => .head) hno (by kernel_rfl) (by kernel_rfl) fun oC1 hno1 => ⟨rfl, ?_⟩
      refine tt_one ?_
      repeat walk_at "mE"
      refine ce_local (List.mem_append_left _ (.head _)) hno1 .here (by kernel_rfl) (by kernel_rfl) (by kernel_rfl) ?_
      repeat walk_at "mE"
      refine c_gt ?_
      obtain ⟨gg, ot⟩ := e
      by_cases hq0 : 0 < q
      · rw [show decide ((0 : Int) < (q : Int)) = true from by simp; omega]
        repeat walk_at "mE"
        refine ce_cell (by kernel_rfl) (List.mem_append_right _ ho5) hoc1 (by kernel_rfl) (by kernel_rfl) (by kernel_rfl) ?_
        refine ce_local (List.mem_append_left _ (.head _)) hno1 .here (by kernel_rfl) (by kernel_rfl) (by kernel_rfl) ?_
        refine d_item (List.mem_append_right _ hm5) hd2 (intKind_is _ _ _ _) hv' (by kernel_rfl) ?_
        repeat walk_at "mE"
        refine i_tuple (List.mem_append_right _ hma) hoa1 (by decide) (by decide) rfl (by kernel_rfl) ?_
        repeat walk_at "mE"
        cases ot with
        | none =>
          obtain rfl : x1 = .none := hx1
          have hdo : dueOk (lastOf ps) q = false := by unfold dueOk; rw [he]; simp
          refine c_isnot_yes ?_
          repeat walk_at "mE"
          refine ⟨oC1, _, rfl, ⟨_, hno1⟩, rfl, hsub, ?_⟩
          rw [htk, List.filter_append, List.filter_cons_of_neg (by rw [hdo]; simp), List.filter_nil, List.append_nil]
          exact hts
        | some tr =>
          have hx1 : TIs I5 tr x1 := hx1
          have hdo : dueOk (lastOf ps) q = true := by unfold dueOk; rw [he]; simp [hq0]
          refine c_isnot_no hx1.notNone ?_
          repeat walk_at "mE"
          refine ce_local (List.mem_append_left _ (.head _)) hno1 .here (by kernel_rfl) (by kernel_rfl) (by kernel_rfl) ?_
          repeat walk_at "mE"
          refine ce_cell (by kernel_rfl) (List.mem_append_right _ ho5) hoc1 (by kernel_rfl) (by kernel_rfl) (by kernel_rfl) ?_
          refine ce_local (List.mem_append_left _ (.head _)) hno1 .here (by kernel_rfl) (by kernel_rfl) (by kernel_rfl) ?_
          refine d_item (List.mem_append_right _ hm5) hd2 (intKind_is _ _ _ _) hv' (by kernel_rfl) ?_
          repeat walk_at "mE"
          refine i_tuple (List.mem_append_right _ hma) hoa1 (by decide) (by decide) rfl (by kernel_rfl) ?_
          repeat walk_at "mE"
          refine ce_cell (by kernel_rfl) (List.mem_append_right _ ho5) hoc1 (by kernel_rfl) (by kernel_rfl) (by kernel_rfl) ?_
          refine ce_local (List.mem_append_left _ (.head _)) hno1 .here (by kernel_rfl) (by kernel_rfl) (by kernel_rfl) ?_
          refine d_item (List.mem_append_right _ hm5) hd2 (intKind_is _ _ _ _) hv' (by kernel_rfl) ?_
          repeat walk_at "mE"
          refine i_tuple (List.mem_append_right _ hma) hoa1 (by decide) (by decide) rfl (by kernel_rfl) ?_
          repeat walk_at "mE"
          refine n_tuple (Nat.le_of_ble_eq_true rfl) fun t5 o5 h5 => ?_
          refine hRy.go ⟨oC1, _, rfl, ⟨_, hno1⟩, rfl, fun p hp => .tail _ (hsub hp), ?_⟩
          rw [htk, List.filter_append, List.filter_cons_of_pos (by rw [hdo]), List.filter_nil, List.map_append]
          refine (hts.mono fun p hp => .tail _ hp).snoc ?_
          unfold dueRow
          rw [he]
          exact .tup (.head _) h5 (.cons .int (.cons .int (.cons (TIs.mono (fun p hp => .tail _ hp) hx1) .nil)))
      · have hdo : dueOk (lastOf ps) q = false := by unfold dueOk; simp [hq0]
        rw [show decide ((0 : Int) < (q : Int)) = false from by simp; omega]
        repeat walk_at "mE"
        refine ⟨oC1, _, rfl, ⟨_, hno1⟩, rfl, hsub, ?_⟩
        rw [htk, List.filter_append, List.filter_cons_of_neg (by rw [hdo]; simp), List.filter_nil, List.append_nil]
        exact hts
    · rintro ys M5 I5 D' oD' ⟨rfl, hsub, hts⟩ hlo'
      have hvl2 : vs'.length = (ordN ((lastOf ps).map (·.1))).length := by rw [hvs'.length, hks, List.length_map]
      rw [hvl2, List.take_length] at hts
      repeat walk_at "mE"
      refine t_of (List.mem_append_left _ (.head _)) hlo' (line_of (by
        rw [hts.length, List.length_map]
        have h1 := List.length_filter_le (dueOk (lastOf ps)) (ordN ((lastOf ps).map (·.1)))
        omega)) fun t5 o5 h5 => ?_
      repeat walk_at "mE"
      exact .shed (.trans (.drop .head) (.drop .head)) (.of ⟨rfl, fun p hp => .tail _ (hsub hp), .tup (.head _) h5 (hts.mono fun p hp => .tail _ hp)⟩)
  subst e1
  have s6 : I3 ⊆ I4 := fun p hp => s5 (s4 hp)
  have iw5 := iw4.mono s6
  replace hps := hps.mono s6
  have hgood : ∀ p ∈ ps, GoodV p.val := fun p hp => by
    rcases (hlaw p hp).val with ⟨n, h⟩ | ⟨n, h⟩ | ⟨n, b', h1, _, _, h⟩ | ⟨lf, b', h1, _, h⟩
    · rw [h]; trivial
    · rw [h]; exact ⟨sortsTo_one (by simp), by simp⟩
    · rw [h]; exact ⟨⟨sortsTo_two' (show sortedS [("Length" : Str), "Type"] = true by decide +kernel) (show sortedS [("Type" : Str), "Length"] = false by decide +kernel), by simp⟩, by omega⟩
    · rw [h]; exact ⟨⟨sortsTo_one (by simp), by simp⟩, by omega⟩
  -- before
  walk_at "mE"
  refine s_cons ?_
  refine s_assignU (cl := []) (by kernel_rfl) (by kernel_rfl) (by kernel_rfl) (by decide +kernel) (by kernel_rfl) (by decide +kernel) (fun _ => by kernel_rfl) ?_
  repeat (first | walk_at "mE" | walk_at "mGet")
  refine p_list (List.mem_append_left _ (.tail _ (.head _))) hpl2.lo ar'.hd fun it4 oi4 O4 Wl4 h04 => ?_
  refine ⟨it4, oi4, _, _, _, O4, _, fun j ys M5 I5 => M5 = (pen, op3) :: (pl, opl2) :: (tl, otl2) :: M ∧ I4 ⊆ I5 ∧ TIss I5 ((ps.take j).map beforeT) ys, rfl, rfl, Wl4 _ _, h04, ⟨rfl, fun p hp => hp, .nil⟩, line_of (by rw [hps.length]; omega), ?_, ?_, ?_⟩
  · rintro j ys M5 I5 ⟨rfl, _, _⟩
    exact src1 (.tail _ (.head _))
  · rintro j ys M5 I5 v o' C oC D' oD' lm hj hvj ⟨rfl, hsub, hts⟩ hno hlo' Ry Rn hRy hRn
    obtain ⟨p, hpi, x, v1, u1, u2, u3, u4, rfl, ip, hvl⟩ := (hps.mono hsub).at hvj
    have hgv := hgood p (List.mem_of_getElem? hpi)
    have hh := hvl.handed
    refine as_name ?_
    refine cn_local (fun o' => .head) hno (by kernel_rfl) (by kernel_rfl) fun oC1 hno1 => ⟨rfl, ?_⟩
    refine tt_nil ?_
    refine ite_t ?_
    repeat walk_at "mE"
    refine ce_local (List.mem_append_left _ (.head _)) hno1 .here (by kernel_rfl) (by kernel_rfl) (by kernel_rfl) ?_
    refine ip.meth k.pm_Piece_told k.fm_Piece_told (k.fn (by decide +kernel)) rfl ?_
    repeat walk_at "mE"
    refine (fn_told_piece k ⟨x, v1, u1, u2, u3, u4, rfl, ip, hvl⟩).te ar' (by decide) (by decide) fun r M6 I6 ⟨e1, sA, hr⟩ => ?_
    subst e1
    have ip6 := ip.mono sA
    have hvl6 := hvl.mono sA
    repeat walk_at "mE"
    refine ce_local (List.mem_append_left _ (.head _)) hno1 .here (by kernel_rfl) (by kernel_rfl) (by kernel_rfl) ?_
    repeat (first | walk_at "mE" | walk_at "mGet")
    refine (told_vl k hvl6 hgv).te ar' (by decide) (by decide) fun r2 M7 I7 ⟨e1, sB, hr2⟩ => ?_
    subst e1
    repeat walk_at "mE"
    refine n_tuple (Nat.le_of_ble_eq_true rfl) fun t5 o5 h5 => ?_
    refine hRy.go ⟨oC1, _, rfl, ⟨_, hno1⟩, rfl, fun p hp => .tail _ (sB (sA (hsub hp))), ?_⟩
    rw [List.take_add_one, hpi, List.map_append]
    refine (hts.mono fun p hp => .tail _ (sB (sA hp))).snoc ?_
    exact .tup (.head _) h5 (.cons (TIs.mono (fun p hp => .tail _ (sB hp)) hr) (.cons (TIs.mono (fun p hp => .tail _ hp) hr2) .nil))
  rintro ys5 M5 I5 bf obf ⟨rfl, s7, hbf⟩ hlbf
  rw [hps.length, List.take_length] at hbf
  -- the shelf
  have hn5 : ps.length ≤ 5 := by omega
  refine .freeze .head (.freeze (.tail .head) (.freeze (.tail .head) ?_))
  have s8 : I5 ⊆ (tl, otl2) :: (pl, opl2) :: (bf, obf) :: I5 := fun p hp => .tail _ (.tail _ (.tail _ hp))
  have s9 : I4 ⊆ (tl, otl2) :: (pl, opl2) :: (bf, obf) :: I5 := fun p hp => s8 (s7 hp)
  have iw6 := iw5.mono s9
  repeat walk_at "mE"
  refine (fn_mended k X iw6 (.tail _ (.head _)) hpl2.lo (hps.mono s9) (ok_ps hlaw hn5) (.head _) htl2.lo htn (fun v hv => by obtain ⟨a1, a2, a3, a4, b1, b2, b3, b4⟩ := htv v hv; exact ⟨a1, a2, a3, a4, b1, s9 (s6 b2), b3, b4.mono fun p hp => s9 (s6 hp)⟩)).te ar' (by decide) (by decide) fun r M7 I7 ⟨e1, s10, sh, t2, o2, d2, kv2, e2, ish, hD, hmt2, hdt2, htb2⟩ => ?_
  subst e1 e2
  have hmo := mend_ok (tab_all hlaw)
  have hgj : GoodK (joinK tvs.length) := by
    unfold joinK
    split
    · exact ⟨sortsTo_one (by simp), by simp⟩
    · exact ⟨sortsTo_one (by simp), by simp⟩
  walk_at "mE"
  refine s_cons ?_
  refine s_if (Te.mono (Te.post (Q := fun bb M8 I8 => bb = false ∧ M8 = (pen, op3) :: M ∧ I7 ⊆ I8) ?_) fun bb M8 I8 ⟨e1, e2, s11⟩ => ?_)
  · repeat walk_at "mE"
    refine ish.meth k.pm_Shelf_told k.fm_Shelf_told (k.fn (by decide +kernel)) rfl ?_
    repeat walk_at "mE"
    refine (fn_told_shelf k ish hmt2 hdt2 htb2 hD hgj hmo.good hmo.nd hmo.lt hmo.size).te ar' (by decide) (by decide) fun r M8 I8 ⟨e1, s12, htold⟩ => ?_
    subst e1
    rw [tell_due hlaw hkl] at htold
    have iw8 := iw6.mono fun p hp => s12 (s10 hp)
    have htl8 : (tl, otl2) ∈ I8 := s12 (s10 (.head _))
    have hdue8 : TIs I8 (.tup (dueOf (lastOf ps))) due := hdue.mono fun p hp => s12 (s10 (s9 hp))
    obtain ⟨ra, rfl⟩ : ∃ ra, r = .ref ra := by cases htold; exact ⟨_, rfl⟩
    have hu : A.units + (Tr.tup [.tup (dueOf (lastOf ps)), tlDic (ordS ((joinK tvs.length).map (·.1))) (joinK tvs.length)]).dep < cLine := by
      have h1 : (Tr.tup (dueOf (lastOf ps))).dep ≤ 6 := by rw [← tell_due hlaw hkl]; exact dep_tell _
      have h2 := dep_dic (ordS ((joinK tvs.length).map (·.1))) (joinK tvs.length)
      have h3 : Tr.depL [.tup (dueOf (lastOf ps)), tlDic (ordS ((joinK tvs.length).map (·.1))) (joinK tvs.length)] ≤ 6 := depL_le fun t ht => by
        simp only [List.mem_cons, List.not_mem_nil, or_false] at ht
        rcases ht with rfl | rfl <;> omega
      have h4 : (Tr.tup [.tup (dueOf (lastOf ps)), tlDic (ordS ((joinK tvs.length).map (·.1))) (joinK tvs.length)]).dep = Tr.depL [.tup (dueOf (lastOf ps)), tlDic (ordS ((joinK tvs.length).map (·.1))) (joinK tvs.length)] + 1 := rfl
      have h5 := ar'.un
      rw [h4]
      show _ < 9900
      omega
    repeat (first | walk_at "mE" | walk_at "mGet")
    refine n_list (Nat.zero_le _) fun el oel hel => ?_
    cases tvs with
    | nil =>
      generalize hJ : joinK ([] : List Value).length = JK at htold hu hgj
      refine c_nenil (List.mem_append_right _ htl8) (List.mem_append_left _ (.head _)) htl2.lo hel (by have := ar'.un; show _ < 9900; omega) ?_
      refine .shed (.drop .head) ?_
      repeat walk_at "mE"
      refine d_new fun d9 od9 hd9 _ => ?_
      refine .freeze .head ?_
      have hD9 : DicIs c ((d9, od9) :: I8) JK d9 := by rw [← hJ]; exact ⟨od9, [], .head _, hd9, .nil⟩
      repeat walk_at "mE"
      refine (told_dic k hD9 hgj).te ar' (by decide) (by decide) fun r2 M9 I9 ⟨e1, s14, hr2⟩ => ?_
      subst e1
      repeat walk_at "mE"
      refine n_tuple (Nat.le_of_ble_eq_true rfl) fun t9 o9 h9 => ?_
      refine c_netrees (t := .tup [.tup (dueOf (lastOf ps)), tlDic (ordS (JK.map (·.1))) JK]) (htold.mono fun p hp => .tail _ (s14 (.tail _ hp))) (.tup (.head _) h9 (.cons (hdue8.mono fun p hp => .tail _ (s14 (.tail _ hp))) (.cons (hr2.mono fun p hp => .tail _ hp) .nil))) hu ?_
      repeat walk_at "mE"
      exact .of ⟨rfl, rfl, fun p hp => .tail _ (s14 (.tail _ (s12 hp)))⟩
    | cons tv tvr =>
      generalize hJ : joinK (tv :: tvr).length = JK at htold hu hgj
      obtain rfl : tvr = [] := List.length_eq_zero_iff.mp (by simp at htn; exact List.length_eq_zero_iff.mpr htn)
      refine c_nelists (List.mem_append_right _ htl8) (List.mem_append_left _ (.head _)) htl2.lo hel (by simp) (by have := ar'.un; show _ < 9900; omega) ?_
      refine .shed (.drop .head) ?_
      repeat walk_at "mE"
      refine e_dict rfl rfl (by simp) (Nat.le_of_ble_eq_true rfl) fun d9 od9 hd9 => ?_
      repeat walk_at "mE"
      refine ⟨od9, _, rfl, hd9, by rfl, show (["Info"] : List Str).Nodup by decide +kernel, fun o4 ho4 => ?_⟩
      refine .freeze .head ?_
      have hD9 : DicIs c ((d9, o4) :: I8) JK d9 := by rw [← hJ]; exact ⟨o4, _, .head _, ho4, .cons ⟨_, rfl⟩ .nil⟩
      repeat walk_at "mE"
      refine (told_dic k hD9 hgj).te ar' (by decide) (by decide) fun r2 M9 I9 ⟨e1, s14, hr2⟩ => ?_
      subst e1
      repeat walk_at "mE"
      refine n_tuple (Nat.le_of_ble_eq_true rfl) fun t9 o9 h9 => ?_
      refine c_netrees (t := .tup [.tup (dueOf (lastOf ps)), tlDic (ordS (JK.map (·.1))) JK]) (htold.mono fun p hp => .tail _ (s14 (.tail _ hp))) (.tup (.head _) h9 (.cons (hdue8.mono fun p hp => .tail _ (s14 (.tail _ hp))) (.cons (hr2.mono fun p hp => .tail _ hp) .nil))) hu ?_
      repeat walk_at "mE"
      exact .of ⟨rfl, rfl, fun p hp => .tail _ (s14 (.tail _ (s12 hp)))⟩
  subst e1 e2
  refine ite_f ?_
  refine s_nil ?_
  refine s_cons ?_
  refine s_ret ?_
  repeat walk_at "mE"
  have s15 : I4 ⊆ I8 := fun p hp => s11 (s10 (s9 hp))
  have iw8 := iw6.mono fun p hp => s11 (s10 hp)
  have hpl8 : (pl, opl2) ∈ I8 := s11 (s10 (.tail _ (.head _)))
  have hbf8 : (bf, obf) ∈ I8 := s11 (s10 (.tail _ (.tail _ (.head _))))
  have hbfT : TIss I8 (ps.map beforeT) ys5 := hbf.mono fun p hp => s11 (s10 (s8 hp))
  refine e_comp (cl := []) (by kernel_rfl) (by decide +kernel) (by kernel_rfl) (by decide +kernel) (fun _ => by kernel_rfl) ?_
  repeat (first | walk_at "mE" | walk_at "mGet")
  refine p_list (List.mem_append_right _ hpl8) hpl2.lo ar'.hd fun it4 oi4 O4 Wl4 h04 => ?_
  refine ⟨it4, oi4, _, _, _, O4, _, fun j ys M9 I9 => M9 = (pen, op3) :: M ∧ I8 ⊆ I9 ∧ TIss I9 ((ps.take j).map beforeT) ys, rfl, rfl, Wl4 _ _, h04, ⟨rfl, fun p hp => hp, .nil⟩, line_of (by rw [hps.length]; omega), ?_, ?_, ?_⟩
  · rintro j ys M9 I9 ⟨rfl, hsub, _⟩
    exact src1 (List.mem_append_right _ (hsub hpl8))
  · rintro j ys M9 I9 v o' C oC D' oD' lm hj hvj ⟨rfl, hsub, hts⟩ hno hlo' Ry Rn hRy hRn
    obtain ⟨p, hpi, x, v1, u1, u2, u3, u4, rfl, ip, hvl⟩ := (hps.mono fun p hp => hsub (s15 hp)).at hvj
    have hgv := hgood p (List.mem_of_getElem? hpi)
    have hh := hvl.handed
    refine as_name ?_
    refine cn_local (fun o' => .head) hno (by kernel_rfl) (by kernel_rfl) fun oC1 hno1 => ⟨rfl, ?_⟩
    refine tt_nil ?_
    refine ite_t ?_
    repeat walk_at "mE"
    refine ce_local (List.mem_append_left _ (.head _)) hno1 .here (by kernel_rfl) (by kernel_rfl) (by kernel_rfl) ?_
    refine ip.meth k.pm_Piece_told k.fm_Piece_told (k.fn (by decide +kernel)) rfl ?_
    repeat walk_at "mE"
    refine (fn_told_piece k ⟨x, v1, u1, u2, u3, u4, rfl, ip, hvl⟩).te ar' (by decide) (by decide) fun r M6 I6 ⟨e1, sA, hr⟩ => ?_
    subst e1
    have ip6 := ip.mono sA
    have hvl6 := hvl.mono sA
    repeat walk_at "mE"
    refine ce_local (List.mem_append_left _ (.head _)) hno1 .here (by kernel_rfl) (by kernel_rfl) (by kernel_rfl) ?_
    repeat (first | walk_at "mE" | walk_at "mGet")
    refine (told_vl k hvl6 hgv).te ar' (by decide) (by decide) fun r2 M7 I7 ⟨e1, sB, hr2⟩ => ?_
    subst e1
    repeat walk_at "mE"
    refine n_tuple (Nat.le_of_ble_eq_true rfl) fun t5 o5 h5 => ?_
    refine hRy.go ⟨oC1, _, rfl, ⟨_, hno1⟩, rfl, fun p hp => .tail _ (sB (sA (hsub hp))), ?_⟩
    rw [List.take_add_one, hpi, List.map_append]
    refine (hts.mono fun p hp => .tail _ (sB (sA hp))).snoc ?_
    exact .tup (.head _) h5 (.cons (TIs.mono (fun p hp => .tail _ (sB hp)) hr) (.cons (TIs.mono (fun p hp => .tail _ hp) hr2) .nil))
  rintro ys9 M9 I9 bg obg ⟨rfl, s16, hbg⟩ hlbg
  rw [hps.length, List.take_length] at hbg
  refine c_eqlists (ts := ps.map beforeT) (List.mem_append_right _ (s16 hbf8)) (List.mem_append_left _ (.head _)) hlbf hlbg (hbfT.mono s16) hbg ?_ ?_
  · have h1 : Tr.depL (ps.map beforeT) ≤ 6 := depL_le fun t ht => by
      obtain ⟨p, _, rfl⟩ := List.mem_map.mp ht
      have h2 := dep_v p.val
      have h3 : (tlP p).dep = 1 := rfl
      have h4 : Tr.depL [tlP p, tlV p.val] ≤ 4 := depL_le fun t ht => by
        simp only [List.mem_cons, List.not_mem_nil, or_false] at ht
        rcases ht with rfl | rfl <;> omega
      show Tr.depL [tlP p, tlV p.val] + 1 ≤ 6
      omega
    have h5 := ar'.un
    show _ < 9900
    omega
  · rfl
end



/-- the law, called from outside -/
theorem law_top {c : Wc} (k : KF c.K) (X : XF c.K) {s1 : Shared} {fa : Addr} {cd : Value} {h1 : Heap} {tk1 : Nat} {oc : Obj} {sc : Addr} {svs : List Value} {xs : List Int} {Q : Flow → Shared → Prop} {E : Value → Shared → Prop}
    (KX : c.K.In s1.heap) (T : TopRead c.p c.loose c.mg c.mb s1.heap) (F : Fr s1.heap s1.heap.objs.size h1 (lk [("script", .ref sc)])) (N : News s1.heap s1.heap.objs.size h1 [(s1.heap.objs.size + 1, oc)]) (hoc : oc.data = .cell none)
    (hL : s1.heap.IsList sc svs.toArray) (hI : IntsAre svs xs) (hx : xs.length ≤ 63) (hQ : ∀ fl h' tk, retOf fl = .bool true → (∀ b o, s1.heap.get? b = some o → h'.get? b = some o) → Q fl { s1 with heap := h', toks := tk }) :
    wpAny (model PW c.w) (callerA.deeper (envOfC d_law.qual d_law.scope s1.heap.objs.size fa cd)) (execs d_law.body (envOfC d_law.qual d_law.scope s1.heap.objs.size fa cd)) Q E { heap := h1, gens := s1.gens, drawn := s1.drawn, toks := tk1, os := s1.os } := by
  have hcf : ∀ L, cellsFrom L d_law.scope.names [] = [(("last" : Str), L)] := fun L => by kernel_rfl
  have hcf1 : ∀ L, (envOfC d_law.qual d_law.scope L fa cd) = (fL (L + 1) ⟨fa, cd, L, s1.heap, s1.heap, callerA⟩).env := fun L => by
    unfold envOfC; rw [hcf]; rfl
  rw [hcf1]
  obtain ⟨osc, hsc, hlo⟩ : ∃ osc, s1.heap.get? sc = some osc ∧ LO svs osc := let ⟨o, a, b, d⟩ := hL; ⟨o, a, b, d⟩
  have ar : Ar (fL (s1.heap.objs.size + 1) ⟨fa, cd, s1.heap.objs.size, s1.heap, s1.heap, callerA⟩) (callerA.deeper (fL (s1.heap.objs.size + 1) ⟨fa, cd, s1.heap.objs.size, s1.heap, s1.heap, callerA⟩).env) 1 :=
    ⟨rfl, rfl, show callerA.depth + 1 ≤ 302 by decide +kernel, show callerA.units + 3 ≤ 9 by decide +kernel, by decide⟩
  have L0 : Live0 c (fL (s1.heap.objs.size + 1) ⟨fa, cd, s1.heap.objs.size, s1.heap, s1.heap, callerA⟩) s1.heap [("script", .ref sc)] [(s1.heap.objs.size + 1, oc)] [] h1 :=
    ⟨⟨below_caller s1.heap, ktsDicts_nil, KtsTurn.refl, KX, T⟩, F, KX, N, T, ⟨by simp, fun p _ q hq => by cases hq⟩, by kernel_rfl⟩
  have key := (law_body (M := []) (I := []) k X ar hsc hlo hI hx hoc).run { heap := h1, gens := s1.gens, drawn := s1.drawn, toks := tk1, os := s1.os } ⟨s1.heap, L0⟩
  refine wpAny_mono key (fun fl s' q => ?_) fun _ _ q => q.elim
  obtain ⟨h', tk, m', M', I', rfl, ⟨g, L'⟩, hr⟩ := q
  exact hQ fl h' tk hr fun b o e => L'.F.keep _ _ (L'.B.turn.other _ _ e (by show b ∉ ([] : List Addr); simp))

end Mine
namespace Mine
namespace hd
def tw732515880790459218 : Unit := ()
def tw10727248033764811480 : Unit := ()
def tw15233327916222325270 : Unit := ()
def tw978014153386294347 : Unit := ()
def tw5373751490086994478 : Unit := ()
def tw1762220295487893987 : Unit := ()
def tw8585376936270615527 : Unit := ()
def tw11579183775450819847 : Unit := ()
def tw2352750151352029642 : Unit := ()
def tw1789384378930872249 : Unit := ()
def tw9502423252354950708 : Unit := ()
def tw9945753312205779467 : Unit := ()
def tw10208501265060282424 : Unit := ()
def tw12471131715012749390 : Unit := ()
def tw12744807935193187038 : Unit := ()
def tw3404104791013757517 : Unit := ()
def tw128238443518577317 : Unit := ()
def tw14966190695027221727 : Unit := ()
def tw10919297434634762262 : Unit := ()
def tw18385348092688986762 : Unit := ()
def tw7010584846471099517 : Unit := ()
def tw16155205043701107222 : Unit := ()
def tw2635901220451274409 : Unit := ()
def tw17087091549796120035 : Unit := ()
def tw15616948245753086127 : Unit := ()
def tw13047593935725612058 : Unit := ()
def tw14892549342360969540 : Unit := ()
def tw7519716089354478335 : Unit := ()
def tw4065347644161347641 : Unit := ()
def tw11128854368766332075 : Unit := ()
def tw4138081844389336918 : Unit := ()
def tw9571657101598308349 : Unit := ()
def tw4377701919642642989 : Unit := ()
def tw5732804406350252772 : Unit := ()
def tw15043168886218598503 : Unit := ()
def tw6990203504111849199 : Unit := ()
def tw2867327485932766208 : Unit := ()
def tw11652457597714270106 : Unit := ()
def tw15103106377680225435 : Unit := ()
def tw16649331688326792143 : Unit := ()
def tw3259873300814134281 : Unit := ()
def tw697623264460660564 : Unit := ()
def tw7793673504863384051 : Unit := ()
def tw13372043803930879067 : Unit := ()
def tw307737655149646647 : Unit := ()
def tw3953601041324332601 : Unit := ()
def tw11117797201346649052 : Unit := ()
def tw8684328023851190084 : Unit := ()
def tw461538923250603899 : Unit := ()
def tw6838551448383532254 : Unit := ()
def tw18241275227582772068 : Unit := ()
def tw8671608845466749128 : Unit := ()
def tw221497870779424605 : Unit := ()
def tw8343274005884668182 : Unit := ()
def tw17599816209265215132 : Unit := ()
def tw2114630138375439770 : Unit := ()
def tw7752767780024739350 : Unit := ()
def tw7540741092611519060 : Unit := ()
def tw6528754448969337418 : Unit := ()
def tw14598272352848978880 : Unit := ()
def tw7540655947842036084 : Unit := ()
def tw4014540891139286612 : Unit := ()
def tw7746578258024575070 : Unit := ()
def tw9535609637249327936 : Unit := ()
def tw11953376511379268794 : Unit := ()
def tw18300207936620678264 : Unit := ()
def tw5363564295841288755 : Unit := ()
def tw5562173858411828344 : Unit := ()
def tw13919464512627920130 : Unit := ()
def tw2167537188350426706 : Unit := ()
def tw6423634429210846174 : Unit := ()
def tw3915529967508079626 : Unit := ()
def tw3480954088277226078 : Unit := ()
def tw8081886968326746073 : Unit := ()
def tw7082855905992002993 : Unit := ()
def tw11631869004601391166 : Unit := ()
def tw4115565904173853331 : Unit := ()
def tw10111801491309104144 : Unit := ()
def tw14294001040229213422 : Unit := ()
def tw2502866573005156581 : Unit := ()
def tw12901994302517312135 : Unit := ()
def tw6819123309680001836 : Unit := ()
def tw5987830557187376847 : Unit := ()
def tw13225837485096350037 : Unit := ()
def tw7628703163842673926 : Unit := ()
def tw16037735763661986305 : Unit := ()
def tw6598312636042714100 : Unit := ()
def tw3759623122121258479 : Unit := ()
def tw9427301549700849589 : Unit := ()
def tw7610815399733428385 : Unit := ()
def tw1882180444382439491 : Unit := ()
def tw7914949630228597729 : Unit := ()
def tw12050417470231563642 : Unit := ()
def tw7676003278276379012 : Unit := ()
def tw190519026028168232 : Unit := ()
def tw6060742912462422084 : Unit := ()
def tw2457190517430149469 : Unit := ()
def tw9783614193127449063 : Unit := ()
def tw8965841893048198262 : Unit := ()
def tw5635641802508607975 : Unit := ()
def tw13483081372092288885 : Unit := ()
def tw8977307856219701671 : Unit := ()
def tw4706079058837389440 : Unit := ()
def tw8727321023445011275 : Unit := ()
def tw7654286748164834634 : Unit := ()
def tw2274498078352570744 : Unit := ()
def tw4993660671451451078 : Unit := ()
def tw3085183777334472315 : Unit := ()
def tw1162550495960143265 : Unit := ()
def tw6830512106363814048 : Unit := ()
def tw13855946660403688772 : Unit := ()
def tw10258999931320997221 : Unit := ()
def tw10170382586518783626 : Unit := ()
def tw11011131195910976488 : Unit := ()
def tw4172343393113369950 : Unit := ()
def tw9430268157657104642 : Unit := ()
def tw15987713032478767096 : Unit := ()
def tw8004679753235328684 : Unit := ()
def tw1588505670450824345 : Unit := ()
def tw13638418597567726942 : Unit := ()
def tw17588044629489971554 : Unit := ()
def tw4851647983119433812 : Unit := ()
def tw16473244170626142550 : Unit := ()
def tw14960593345356199642 : Unit := ()
def tw15508949281206285077 : Unit := ()
def tw4272726840584523970 : Unit := ()
def tw16828841361933241965 : Unit := ()
def tw13642289790063256904 : Unit := ()
def tw10458740792067480800 : Unit := ()
def tw17183224562656869120 : Unit := ()
def tw1506431575118746342 : Unit := ()
def tw12112201142124510154 : Unit := ()
def tw13038990169509382042 : Unit := ()
def tw1556766022789300190 : Unit := ()
def tw16091413853298234908 : Unit := ()
def tw3530705653197291679 : Unit := ()
def tw1712922718373300912 : Unit := ()
def tw8716120427605611371 : Unit := ()
def tw15837987909243819085 : Unit := ()
def tw7120233287515763914 : Unit := ()
def tw15642763164714097627 : Unit := ()
def tw991583007596301734 : Unit := ()
def tw5505005885091257285 : Unit := ()
def tw3789350110615891812 : Unit := ()
def tw13466754112058979494 : Unit := ()
def tw4478166936697009375 : Unit := ()
def tw17491280204586788870 : Unit := ()
def tw15030894091695109418 : Unit := ()
def tw1781861727890032366 : Unit := ()
def tw1610171440888473627 : Unit := ()
def tw9170477692918782315 : Unit := ()
def tw18103342009636024947 : Unit := ()
def tw1017328040139425936 : Unit := ()
def tw432457690288141553 : Unit := ()
def tw1699103778626983548 : Unit := ()
def tw11210553801493137410 : Unit := ()
def tw17387473266821786944 : Unit := ()
def tw6123773746684550334 : Unit := ()
def tw7068711184596962023 : Unit := ()
def tw13285133528070534704 : Unit := ()
def tw9719896912496429819 : Unit := ()
def tw11713075325732132258 : Unit := ()
def tw1580110805410547442 : Unit := ()
def tw12949589719889679912 : Unit := ()
def tw8879563391730754479 : Unit := ()
def tw14955159897011116063 : Unit := ()
def tw10246146449241189800 : Unit := ()
def tw5130813555471234732 : Unit := ()
def tw7512474625130614241 : Unit := ()
def tw16259696140248634718 : Unit := ()
def tw11917015161858427179 : Unit := ()
def tw212345690472687942 : Unit := ()
def tw16299908979028503884 : Unit := ()
def tw1359830224848277088 : Unit := ()
def tw11079593142295127227 : Unit := ()
def tw11054480109507316185 : Unit := ()
def tw11631947586910100387 : Unit := ()
def tw2327210489368252092 : Unit := ()
def tw5480042469492414594 : Unit := ()
def tw9398405308114057262 : Unit := ()
def tw5629675986466331604 : Unit := ()
def tw6164396464334811476 : Unit := ()
def tw17919194246423945575 : Unit := ()
def tw15615537253650120727 : Unit := ()
def tw12575139184659369484 : Unit := ()
def tw15422856539912107476 : Unit := ()
def tw1013155817946168525 : Unit := ()
def tw1836080755315867724 : Unit := ()
def tw17330945745186091897 : Unit := ()
def tw16970440968685349367 : Unit := ()
def tw1409312971732116557 : Unit := ()
def tw5292301768408028288 : Unit := ()
def tw6683769817339685419 : Unit := ()
def tw6965799899956892507 : Unit := ()
def tw18093812233618175256 : Unit := ()
def tw1222794163293265305 : Unit := ()
def tw13409441903868389331 : Unit := ()
def tw9763420282994701918 : Unit := ()
def tw4360684699965382250 : Unit := ()
def tw17672654358674132775 : Unit := ()
def tw8735263284916673568 : Unit := ()
def tw17893044597097874663 : Unit := ()
def tw13267510147771200024 : Unit := ()
def tw15042006015671813226 : Unit := ()
def tw8112040973832200146 : Unit := ()
def tw16640546478005224243 : Unit := ()
def tw18343703819029505601 : Unit := ()
def tw8959176491354863721 : Unit := ()
def tw13080819368221473569 : Unit := ()
def tw7023726343779634624 : Unit := ()
def tw13315533130655954831 : Unit := ()
def tw7880807054014371918 : Unit := ()
def tw7270182246851987180 : Unit := ()
def tw3309697970292668127 : Unit := ()
def tw13289513938125300765 : Unit := ()
def tw9741134391959003819 : Unit := ()
def tw14553816603554493358 : Unit := ()
def tw5009564483982726761 : Unit := ()
def tw4383666589626881386 : Unit := ()
def tw17234923516513369237 : Unit := ()
def tw11709330566771433103 : Unit := ()
def tw16722109127936396110 : Unit := ()
def tw6555240042291301478 : Unit := ()
def tw16713699803418581334 : Unit := ()
def tw8516288146210602744 : Unit := ()
def tw17258206423299326598 : Unit := ()
def tw9298403506768410418 : Unit := ()
def tw12070051907170230399 : Unit := ()
def tw9499510787657705874 : Unit := ()
def tw10860895700388868024 : Unit := ()
def tw9345676750909349944 : Unit := ()
def tw11587034568685482758 : Unit := ()
def tw16211521421427940678 : Unit := ()
def tw2999033326186475339 : Unit := ()
def tw185848376630758926 : Unit := ()
def tw17843490464661113860 : Unit := ()
def tw17714235663813219645 : Unit := ()
def tw5366084841770067474 : Unit := ()
def tw14745743045033390146 : Unit := ()
def tw4315991029959535628 : Unit := ()
def tw9960721518486171458 : Unit := ()
def tw8990313861142287110 : Unit := ()
def tw7153062008950511462 : Unit := ()
def tw845060206244984605 : Unit := ()
def tw3919010098100093602 : Unit := ()
def tw1997569388931296116 : Unit := ()
def tw17054507655720011243 : Unit := ()
def tw11389486352061984695 : Unit := ()
def tw1760603350576429475 : Unit := ()
def tw3008623586974134963 : Unit := ()
def tw16920754564084929960 : Unit := ()
def tw519851828213033955 : Unit := ()
def tw16868993833207775613 : Unit := ()
def tw13321331477185743149 : Unit := ()
def tw1600037746751723098 : Unit := ()
def tw15213948185873263833 : Unit := ()
def tw11251137523995926341 : Unit := ()
def tw13770079208771991547 : Unit := ()
def tw17739348878880393726 : Unit := ()
def tw728884934406724761 : Unit := ()
def tw2051048951616859547 : Unit := ()
def tw13368278939475635651 : Unit := ()
def tw11465210709893060100 : Unit := ()
def tw3451239065008710300 : Unit := ()
def tw11319097763535126812 : Unit := ()
def tw10738003575532504788 : Unit := ()
def tw15411387601460861337 : Unit := ()
def tw395138700845864316 : Unit := ()
def tw7494724483528729301 : Unit := ()
def tw8457440626546761165 : Unit := ()
def tw6082411064634330575 : Unit := ()
def tw9566141503761928105 : Unit := ()
def tw16157073509204512506 : Unit := ()
def tw13181700845877081190 : Unit := ()
def tw15946388913382835224 : Unit := ()
def tw18279923248553523168 : Unit := ()
def tw12647368939536790636 : Unit := ()
def tw16240987189780228909 : Unit := ()
def tw9440118169554580438 : Unit := ()
def tw11754176132448286083 : Unit := ()
def tw18103420901670897651 : Unit := ()
def tw2783992281797965187 : Unit := ()
def tw6868836192036940282 : Unit := ()
def tw7355570028127101125 : Unit := ()
def tw3694398316872202419 : Unit := ()
def tw7296583596125217682 : Unit := ()
def tw10678649693572172417 : Unit := ()
def tw11778180911958503814 : Unit := ()
def tw14478148883734587675 : Unit := ()
def tw12271959270614036898 : Unit := ()
def tw3646829019195819677 : Unit := ()
def tw18264374347568628810 : Unit := ()
def tw4971549296188076032 : Unit := ()
def tw7289634563603522867 : Unit := ()
def tw14457593812595234344 : Unit := ()
def tw5343241284826551009 : Unit := ()
def tw6264232113106981867 : Unit := ()
def tw15367242080415987702 : Unit := ()
def tw11136197038861592535 : Unit := ()
def tw11660266114150955751 : Unit := ()
def tw3704167492566942397 : Unit := ()
def tw16477043939570097188 : Unit := ()
def tw16171809288044610508 : Unit := ()
def tw3229955645248102723 : Unit := ()
def tw15948780112781908787 : Unit := ()
def tw12602439190401603521 : Unit := ()
def tw11151547217846952531 : Unit := ()
def tw2068664650715991707 : Unit := ()
def tw4788038989552484473 : Unit := ()
def tw2329189449893159454 : Unit := ()
def tw2788664435532181463 : Unit := ()
def tw5190246844813560578 : Unit := ()
def tw8356816923877370021 : Unit := ()
def tw26425463804135960 : Unit := ()
def tw3350844169311001129 : Unit := ()
def tw15683763237869141255 : Unit := ()
def tw16432713993328977331 : Unit := ()
def tw4297731678662094536 : Unit := ()
def tw12629568148972539762 : Unit := ()
def tw5283464899586487735 : Unit := ()
def tw16011055738799735888 : Unit := ()
def tw4654797750381630734 : Unit := ()
def tw12113243949977362033 : Unit := ()
def tw9153386212771759811 : Unit := ()
def tw8228950375871286339 : Unit := ()
def tw2252305205657439004 : Unit := ()
def tw2708950531961675432 : Unit := ()
def tw10424393626065333798 : Unit := ()
def tw1439246655266547700 : Unit := ()
def tw3429492842335990350 : Unit := ()
end hd
def lawDef : DefRec := match topSt 46 with
  | .FunctionDef n a b _ _ _ s _ _ p => ⟨n, a, b, s, p⟩
  | _ => ⟨"", default, [], default, default⟩
set_option maxHeartbeats 0 in
set_option Elab.async true in
theorem hd : PySem.Challenge.rw_nn0131_01.Holds := by
  w_on; o_law; k_head; (case hw => w_witness2)
  k_fill
  intro w s₀ s₁ mg mb G Y fa o pm cd doc dV kV ho hd hcd hD hmg hg args vals as hpre hlay hrd hwl hlo
  have KX := kIn_of Y
  k_behind G ho hd hcd hD hmg hpre hlay hrd hwl hlo cd
  rename_i T _ _ _ _ _ _ _ _ xsL _ _ _ _ _ _ _ scL svs _ hL _ _ _ hI _ hc63 _ K0 h1 tk1 F oc hoc N0 X0
  refine law_top (c := ⟨w, _, _, _, mg, mb⟩) ?kf ?xf KX (topRead_of T) (oc := oc) (sc := scL) (svs := svs) (xs := xsL) ?_ N0 ?_ hL hI (by omega) fun fl h' tk hr hk => ?_
  case kf => exact {
    keep := by kernel_rfl,
    fns := by kernel_rfl,
    isT := by kernel_rfl,
    isF := by kernel_rfl,
    own := by kernel_rfl,
    g_kind_of := by kernel_rfl,
    g_told_plain := by kernel_rfl,
    g_told := by kernel_rfl,
    g_trailer_of := by kernel_rfl,
    g_is_cross_stream := by kernel_rfl,
    g_is_object_stream := by kernel_rfl,
    g_drop_file_streams := by kernel_rfl,
    g_table_of := by kernel_rfl,
    g_is_of_type := by kernel_rfl,
    g_packed_pieces := by kernel_rfl,
    g_all_pieces := by kernel_rfl,
    g_trailers_of := by kernel_rfl,
    g_joined := by kernel_rfl,
    g_last_catalog := by kernel_rfl,
    g_shelf_from := by kernel_rfl,
    g_true_length := by kernel_rfl,
    g_with_true_lengths := by kernel_rfl,
    g_mended_by := by kernel_rfl,
    g_law_draw := by kernel_rfl,
    g_law_read := by kernel_rfl,
    g_law_value := by kernel_rfl,
    g_law := by kernel_rfl,
    g_told_objects := by kernel_rfl,
    g_PaperError := by kernel_rfl,
    g_CrossFault := by kernel_rfl,
    g_Name := by kernel_rfl,
    g_String := by kernel_rfl,
    g_Stream := by kernel_rfl,
    g_Reference := by kernel_rfl,
    g_Lookup := by kernel_rfl,
    g_Shelf := by kernel_rfl,
    g_Piece := by kernel_rfl,
    g_Walk := by kernel_rfl,
    g_Decimal := by kernel_rfl,
    g_MOST_HOPS := by kernel_rfl,
    g_OWN_KEYS := by kernel_rfl,
    g_OF_THE_FILE := by kernel_rfl,
    b_len := by kernel_rfl,
    b_list := by kernel_rfl,
    b_dict := by kernel_rfl,
    b_bytes := by kernel_rfl,
    b_tuple := by kernel_rfl,
    b_sorted := by kernel_rfl,
    b_reversed := by kernel_rfl,
    b_range := by kernel_rfl,
    b_isinstance := by kernel_rfl,
    b_sum := by kernel_rfl,
    b_int := by kernel_rfl,
    b_bool := by kernel_rfl,
    b_Exception := by kernel_rfl,
    f_kind_of := by kernel_rfl,
    f_told_plain := by kernel_rfl,
    f_told := by kernel_rfl,
    f_trailer_of := by kernel_rfl,
    f_is_cross_stream := by kernel_rfl,
    f_is_object_stream := by kernel_rfl,
    f_drop_file_streams := by kernel_rfl,
    f_table_of := by kernel_rfl,
    f_is_of_type := by kernel_rfl,
    f_packed_pieces := by kernel_rfl,
    f_all_pieces := by kernel_rfl,
    f_trailers_of := by kernel_rfl,
    f_joined := by kernel_rfl,
    f_last_catalog := by kernel_rfl,
    f_shelf_from := by kernel_rfl,
    f_true_length := by kernel_rfl,
    f_with_true_lengths := by kernel_rfl,
    f_mended_by := by kernel_rfl,
    f_law_draw := by kernel_rfl,
    f_law_read := by kernel_rfl,
    f_law_value := by kernel_rfl,
    f_law := by kernel_rfl,
    f_PaperError_init__ := by kernel_rfl,
    f_Name_init__ := by kernel_rfl,
    f_Stream_init__ := by kernel_rfl,
    f_Lookup_init__ := by kernel_rfl,
    f_Lookup_fetch := by kernel_rfl,
    f_Lookup_get := by kernel_rfl,
    f_Shelf_drop := by kernel_rfl,
    f_Shelf_numbers := by kernel_rfl,
    f_Shelf_root := by kernel_rfl,
    f_Shelf_told := by kernel_rfl,
    f_Piece_init__ := by kernel_rfl,
    f_Piece_told := by kernel_rfl,
    f_Walk_init__ := by kernel_rfl,
    mk_Name := by kernel_rfl,
    mk_Stream := by kernel_rfl,
    mk_Shelf := by kernel_rfl,
    mk_Piece := by kernel_rfl,
    mk_Walk := by kernel_rfl,
    mk_Reference := by kernel_rfl,
    in_Name := by kernel_rfl,
    in_Stream := by kernel_rfl,
    in_Shelf := by kernel_rfl,
    in_Piece := by kernel_rfl,
    in_Walk := by kernel_rfl,
    pm_Shelf_get := by kernel_rfl,
    fm_Shelf_get := by kernel_rfl,
    pm_Shelf_fetch := by kernel_rfl,
    fm_Shelf_fetch := by kernel_rfl,
    pm_Shelf_drop := by kernel_rfl,
    fm_Shelf_drop := by kernel_rfl,
    pm_Shelf_numbers := by kernel_rfl,
    fm_Shelf_numbers := by kernel_rfl,
    pm_Shelf_root := by kernel_rfl,
    fm_Shelf_root := by kernel_rfl,
    pm_Shelf_told := by kernel_rfl,
    fm_Shelf_told := by kernel_rfl,
    pm_Piece_told := by kernel_rfl,
    fm_Piece_told := by kernel_rfl,
    q1_Stream := by kernel_rfl,
    q2_Stream := by kernel_rfl,
    q3_Stream := by kernel_rfl,
    q1_Name := by kernel_rfl,
    q2_Name := by kernel_rfl,
    q3_Name := by kernel_rfl,
    q4 := by kernel_rfl,
    e_Name := by kernel_rfl,
    q5 := by kernel_rfl,
    o_285 := by kernel_rfl,
    o_29 := ⟨_, by rfl⟩,
    o_366 := by kernel_rfl,
    o_388 := by kernel_rfl }
  case xf => exact {
    cls := ⟨⟨_, _, _, _, _, _, _, _, _, _, _, _, _, _⟩, by rfl⟩,
    init := by kernel_rfl,
    ifn := by kernel_rfl,
    set := by kernel_rfl,
    what := by kernel_rfl,
    at_ := by kernel_rfl,
    obj := by kernel_rfl,
    dict := by kernel_rfl,
    keep := by kernel_rfl,
    o29 := by kernel_rfl,
    ei := by kernel_rfl,
    exm := by kernel_rfl }
  · exact Eq.mp (congrArg (fun mm => Fr s₁.heap s₁.heap.objs.size h1 mm) (bindL_of (loc := [("script", .ref scL)]) (by kernel_rfl))) F
  · rw [hoc]
    kernel_rfl
  · have e : (match fl with | Flow.ret v => v | x => Value.none) = .bool true := hr
    refine ⟨.inl ⟨.bool true, .bool true, [], ?_, fun cls => ?_, .bool true, ?_, unshared_nil⟩, hk, rfl, hg⟩
    · exact congrArg (fun v => Except.ok (Flow.ret v)) e
    · rfl
    · refine postW_of (X := true) ?s1 ?v1 rfl
      · o_shape
      · kernel_rfl
end Mine
theorem PySem.Challenge.cw_nn0131_01_holds : PySem.Challenge.rw_nn0131_01.Holds := by
  exact Mine.hd
