import PyProof.Rows.All
import Wide.All
import OpenK.AllK
import Wide.FinOn
import Lean
import PySem.Challenge.RW_ov0047_01
open PySem PySem.W PySem.Calls PySem.Spec PyProof.Rows
set_option Elab.async false
set_option maxRecDepth 100000
set_option maxHeartbeats 8000000
set_option linter.unusedVariables false
namespace Mine
section

/-- the exception's own object: its class, its dict, its fields -/
def XObj (h : Heap) (e C dx : Addr) (oe : Obj) (vs : Array Value) : Prop :=
  h.get? e = some oe ∧ oe.cls = .ref C ∧ oe.dict = some dx ∧ oe.data = .fields vs ∧ 1 < vs.size

def XNew (h : Heap) (e C dx : Addr) : Prop := ∃ oe vs, XObj h e C dx oe vs ∧ vs[1]? = some .none

def XAt (base h : Heap) (e C dx : Addr) (fl : Value) : Prop :=
  ∃ oe vs T oT ts, XObj h e C dx oe vs ∧ vs[1]? = some (.ref T) ∧ base.get? T = none ∧ T ≠ e ∧ h.get? T = some oT ∧ oT.data = .fields ts ∧ ts[3]? = some fl

section
variable {M : Model} {A : Around} {E : Value → Shared → Prop} {s : Shared} {base : Heap} {env : Env} {outer l : List Env} {L e C dx : Addr} {Q : Unit → Shared → Prop}

/-- what a frame's note leaves behind -/
def Noted (base : Heap) (l : List Env) (e C dx : Addr) (fl : Value) (h h' : Heap) : Prop :=
  base.StaysIn h' ∧ h'.FunFrames base l ∧ XAt base h' e C dx fl ∧ h.UpToSlots h'

theorem notRec {h : Heap} {b e : Addr} {o oe : Obj} {vs : Array Value} (he : h.get? e = some oe) (hd : oe.data = .fields vs) (hb : h.get? b = some o) (hn : ∀ vs, o.data ≠ .fields vs) : b ≠ e := by
  intro q
  subst q
  rw [he] at hb
  cases hb
  exact hn vs hd

theorem entryX {head : Value} {hadNext : Bool} {oe : Obj} {vs : Array Value} (hfr : A.frames = some (env :: outer)) (hl : s.heap.FunFrames base (env :: outer)) (hf : env.frame = some L)
    (hkb : base.StaysIn s.heap) (hen : base.get? e = none) (hx : XObj s.heap e C dx oe vs)
    (k : ∀ h', Noted base (env :: outer) e C dx (rawInt L) s.heap h' → Q () { s with heap := h' }) :
    wpAny M A (do let a ← frameOf env; let pl ← entryPlaceOf L hadNext; let b ← EntryCells.newEntry head a .none (rawInt L) .none pl; setField (.ref e) 1 b) Q E s := by
  obtain ⟨he, hc, hdc, hd, hsz⟩ := hx
  have out : e ∉ (env :: outer).filterMap (·.frame) := fun hm => by
    obtain ⟨_, o, ho, hn⟩ := hl.mem hm
    rw [he] at ho
    cases ho
    exact hn vs hd
  refine wpAny_bind (wpAny_frameOf_fun hfr hl hf fun h₁ S₁ => ?_)
  refine wpAny_bind (wpAny_entryPlaceOf fun pl hpl => ?_)
  unfold EntryCells.newEntry newFields
  refine wpAny_bind (wpAny_newObj_type ?_ (hpl.sizeOk5 _ _ _ _ _))
  have e1 : h₁.get? e = some oe := (S₁.2.1 e out).trans he
  have b1 : base.StaysIn h₁ := fun b o hb => (S₁.2.1 b fun hm => by rw [(hl.mem hm).1] at hb; cases hb).trans (hkb b o hb)
  have lt : e < h₁.objs.size := Heap.lt_size e1
  generalize hT : ({ cls := .type "traceback", dict := none, data := .fields ([head, .ref L, .none, rawInt L, .none] ++ (if pl.isEmpty then List.replicate 6 Value.none else pl)).toArray } : Obj) = oT
  have dT : oT.data = .fields ([head, .ref L, .none, rawInt L, .none] ++ (if pl.isEmpty then List.replicate 6 Value.none else pl)).toArray := by rw [← hT]
  have fT : oT.isFreed = false := by rw [← hT]; rfl
  have e2 := Heap.get?_push_of_some (h := h₁) oT e1
  have d3 := Obj.data_mapFields hd (·.setIfInBounds 1 (Value.ref h₁.objs.size))
  refine wpAny_setField e2 hd hsz (k _ ?_)
  have e3 := Heap.get?_update_self (Obj.mapFields (·.setIfInBounds 1 (Value.ref h₁.objs.size))) e2 (Obj.isFreed_of_fields d3)
  have old : ∀ b o, b ≠ e → h₁.get? b = some o → ((h₁.push oT).update e (Obj.mapFields (·.setIfInBounds 1 (Value.ref h₁.objs.size)))).get? b = some o := fun b o hne hb => by
    rw [Heap.get?_update_other _ _ (Ne.symm hne)]
    exact Heap.get?_push_of_some _ hb
  have up : s.heap.UpToSlots ((h₁.push oT).update e (Obj.mapFields (·.setIfInBounds 1 (Value.ref h₁.objs.size)))) := fun b o hb hn => by
    obtain ⟨sl, hs⟩ := S₁.2.2 b o hb
    exact ⟨sl, old b _ (notRec he hd hb hn) hs⟩
  refine ⟨fun b o hb => old b o (fun q => by rw [q, hen] at hb; cases hb) (b1 b o hb), hl.of_keeps fun b o hb hn => ?_, ?_, up⟩
  · obtain ⟨sl, hs⟩ := up b o hb hn
    exact ⟨_, hs, rfl⟩
  · refine ⟨_, _, h₁.objs.size, oT, _, ⟨e3, (Obj.cls_mapFields _ _).trans hc, ?_, d3, by simpa using hsz⟩, by simp [hsz], b1.fresh, Nat.ne_of_gt lt, ?_, dT, ?_⟩
    · obtain ⟨_, _, dt, _⟩ := oe
      simp only at hd
      subst hd
      exact hdc
    · rw [Heap.get?_update_other _ _ (Nat.ne_of_lt lt)]
      exact Heap.get?_push_size _ fT
    · first | (simp; done) | (rcases hpl with rfl | ⟨_, _, _, _, _, _, _, rfl⟩ <;> simp)

theorem flightX {fl : Value} (hkb : base.StaysIn s.heap) (hl : s.heap.FunFrames base l) (hx : XAt base s.heap e C dx fl)
    (k : ∀ h', Noted base l e C dx .none s.heap h' → Q () { s with heap := h' }) : wpAny M A (setFlight (.ref e) none) Q E s := by
  obtain ⟨oe, vs, T, oT, ts, ⟨he, hc, hdc, hd, hsz⟩, h1, hnT, hTe, hT, hdT, h3⟩ := hx
  have sz3 : 3 < ts.size := (Array.getElem?_eq_some_iff.mp h3).1
  have old : ∀ b, b ≠ T → (s.heap.update T (Obj.mapFields (·.setIfInBounds 3 ((none : Option Addr).elim Value.none fun f => rawInt f)))).get? b = s.heap.get? b := fun b hb => Heap.get?_update_other _ _ (Ne.symm hb)
  unfold setFlight
  refine wpAny_bind (wpAny_field he hd h1 ?_)
  rw [if_pos (show (Value.ref T != Value.none) = true from by simp)]
  refine wpAny_setField hT hdT sz3 (k _ ?_)
  have up : s.heap.UpToSlots (s.heap.update T (Obj.mapFields (·.setIfInBounds 3 ((none : Option Addr).elim Value.none fun f => rawInt f)))) := fun b o hb hn => ⟨o.slots, (old b (notRec hT hdT hb hn)).trans hb⟩
  refine ⟨fun b o hb => (old b fun q => by rw [q, hnT] at hb; cases hb).trans (hkb b o hb), hl.of_keeps fun b o hb hn => ⟨o, (old b (notRec hT hdT hb hn)).trans hb, rfl⟩, ?_, up⟩
  exact ⟨oe, vs, T, _, _, ⟨(old e (Ne.symm hTe)).trans he, hc, hdc, hd, hsz⟩, h1, hnT, hTe, Heap.get?_update_self _ hT (Obj.isFreed_of_fields (Obj.data_mapFields hdT _)), Obj.data_mapFields hdT _, by simp [sz3]⟩

/-- an exception that flies: just made, or with a traceback in no frame -/
def XFly (base h : Heap) (e C dx : Addr) : Prop := XNew h e C dx ∨ XAt base h e C dx .none

theorem noteX (hfr : A.frames = some (env :: outer)) (hl : s.heap.FunFrames base (env :: outer)) (hf : env.frame = some L) (hkb : base.StaysIn s.heap) (hen : base.get? e = none) (hx : XFly base s.heap e C dx)
    (k : ∀ h', Noted base (env :: outer) e C dx (rawInt L) s.heap h' → Q () { s with heap := h' }) : wpAny M A (noteFrame (.ref e) env) Q E s := by
  unfold noteFrame
  simp only [hf]
  rcases hx with ⟨oe, vs, hx, h1⟩ | ⟨oe, vs, T, oT, ts, hx, h1, hnT, hTe, hT, hdT, h3⟩
  · refine wpAny_bind (wpAny_field hx.1 hx.2.2.2.1 h1 ?_)
    rw [if_neg (by decide)]
    exact entryX hfr hl hf hkb hen hx k
  · refine wpAny_bind (wpAny_field hx.1 hx.2.2.2.1 h1 ?_)
    rw [if_pos (show (Value.ref T != Value.none) = true from by simp)]
    refine wpAny_bind (wpAny_field hT hdT h3 ?_)
    rw [if_neg (show ¬ ((Value.none == rawInt L) = true) from by simp [rawInt])]
    refine wpAny_bind (wpAny_setField hT hdT (Array.getElem?_eq_some_iff.mp h3).1 ?_)
    have old : ∀ b, b ≠ T → (s.heap.update T (Obj.mapFields (·.setIfInBounds 3 Value.none))).get? b = s.heap.get? b := fun b hb => Heap.get?_update_other _ _ (Ne.symm hb)
    have up : s.heap.UpToSlots (s.heap.update T (Obj.mapFields (·.setIfInBounds 3 Value.none))) := fun b o hb hn => ⟨o.slots, (old b (notRec hT hdT hb hn)).trans hb⟩
    obtain ⟨he, hr⟩ := hx
    exact entryX hfr (hl.of_keeps fun b o hb hn => ⟨o, (old b (notRec hT hdT hb hn)).trans hb, rfl⟩) hf (fun b o hb => (old b fun q => by rw [q, hnT] at hb; cases hb).trans (hkb b o hb)) hen ⟨(old e (Ne.symm hTe)).trans he, hr⟩
      fun h' ⟨x1, x2, x3, x4⟩ => k h' ⟨x1, x2, x3, up.trans x4⟩

theorem leaveX (hfr : A.frames = some (env :: outer)) (hl : s.heap.FunFrames base (env :: outer)) (hf : env.frame = some L) (hkb : base.StaysIn s.heap) (hen : base.get? e = none) (hx : XFly base s.heap e C dx)
    (k : ∀ h', base.StaysIn h' → h'.FunFrames base outer → XFly base h' e C dx → s.heap.UpToSlots h' → Q () { s with heap := h' }) : wpAny M A (leaving env (.ref e)) Q E s := by
  unfold leaving
  refine wpAny_bind (noteX hfr hl hf hkb hen hx fun h₁ ⟨x1, x2, x3, x4⟩ => ?_)
  exact flightX (l := env :: outer) x1 x2 x3 fun h₂ ⟨y1, y2, y3, y4⟩ => k h₂ y1 y2.2.2 (.inr y3) (x4.trans y4)
end
end
section

def Room (A : Around) (k : Nat) : Prop := A.depth + k < recursionLimit ∧ A.units + 8 * k + 100 < cLine
theorem Room.mk {A : Around} {k : Nat} (h : A.depth + k < recursionLimit) (h' : A.units + 8 * k + 100 < cLine) : Room A k := ⟨h, h'⟩
theorem Room.d {A : Around} {j k : Nat} (h : Room A j) (e : Nat.ble k j = true) : A.depth + k < recursionLimit := by
  have := Nat.le_of_ble_eq_true e
  have := h.1
  omega
theorem Room.u {A : Around} {j k : Nat} (h : Room A j) (e : Nat.ble k j = true) : A.units + 8 * k + 100 < cLine := by
  have := Nat.le_of_ble_eq_true e
  have := h.2
  omega
theorem Room.u64 {A : Around} {j : Nat} (h : Room A j) : A.units + 64 < cLine := by
  have := h.2
  omega
abbrev Sub (l l' : List (Addr × Obj)) : Prop := ∀ q ∈ l, q ∈ l'
abbrev fr (l : List Env) : List Addr := l.filterMap (·.frame)

/-- the ground on which a frame stands -/
structure Cx (K : Frag) (p : Program) (loose : List Str) (mean : ExcName → Option Value) (mg mb : Str → Option Value) (A₀ : Around) (base : Heap) (outer : List Env) (g0 h₀ : Heap) : Prop where
  B : Below A₀ base outer h₀
  XB : K.In base
  TB : Top p loose mean mg mb base
  D : KtsDicts (fr outer) h₀
  T0 : KtsTurn (fr outer) g0 h₀

section
variable {K : Frag} {p : Program} {loose : List Str} {mean : ExcName → Option Value} {mg mb : Str → Option Value} {A₀ : Around} {base g0 h₀ h h' : Heap} {outer : List Env} {L : Addr} {m : Str → Option Value} {news : List (Addr × Obj)}
theorem Cx.X (C : Cx K p loose mean mg mb A₀ base outer g0 h₀) : K.In h₀ := C.XB.keeps C.B.stays
theorem Cx.T (C : Cx K p loose mean mg mb A₀ base outer g0 h₀) : Top p loose mean mg mb h₀ := C.TB.keeps C.B.stays
theorem reground (C : Cx K p loose mean mg mb A₀ base outer g0 h₀) (F : Fr h₀ L h m) (fresh : ∀ q ∈ news, q.1 ≠ L ∧ h₀.get? q.1 = none)
    (keepB : ∀ b o, h₀.get? b = some o → b ∉ fr outer → h'.get? b = some o) (nk : ∀ q ∈ news, h'.get? q.1 = some q.2) (up : h.UpToSlots h') :
    ∃ h₁, KtsTurn (fr outer) h₀ h₁ ∧ Cx K p loose mean mg mb A₀ base outer g0 h₁ ∧ Fr h₁ L h' m ∧ News h₁ L h' news := by
  obtain ⟨T, S⟩ := kts_turn_at (h := h') (fs := fr outer) (g := h₀)
    (fun b hb => by
      obtain ⟨_, o, ho, _⟩ := C.B.frames.mem hb
      exact ⟨o, ho⟩)
    keepB
    (fun b o e hm => by
      obtain ⟨o', es, n, ho', hd⟩ := C.D b hm
      rw [e] at ho'
      cases ho'
      exact up b o (F.keep b o e) (fun vs q => by rw [hd] at q; cases q))
  have B' : Below A₀ base outer (ktsHeap h' (fr outer) h₀) := ⟨C.B.stack, fun b o e => T.other b o (C.B.stays b o e) (fun hm => by
    rw [(C.B.frames.mem hm).1] at e
    cases e), C.B.frames.of_keeps fun b o e _ => by
    obtain ⟨sl, hs⟩ := T.up e
    exact ⟨_, hs, rfl⟩⟩
  exact ⟨_, T, ⟨B', C.XB, C.TB, C.D.turn T, C.T0.trans T⟩, ⟨up.ns F.ns, S, by rw [T.size]; exact F.above⟩, fun q hq => ⟨nk q hq, (fresh q hq).1, T.none_ _ (fresh q hq).2⟩⟩
end

/-- the dict that the refusal bears -/
def Msg (od : Obj) : Prop := ∃ hsh tk tk', od = dictOf [⟨hsh, .str "message" tk, .str "result is not exact" tk'⟩] 1

/-- an exception that flies over frames l: what stays -/
def Fl (C : Addr) (base h₀ : Heap) (outer : List Env) (news : List (Addr × Obj)) (l : List Env) (e : Addr) (h : Heap) : Prop :=
  ∃ B dx od, base.StaysIn B ∧ B.StaysIn h ∧ B.get? e = none ∧ h.FunFrames B l ∧ XFly B h e C dx ∧ B.get? dx = some od ∧ Msg od ∧
    (∀ b o, h₀.get? b = some o → b ∉ fr outer → B.get? b = some o) ∧ ∀ q ∈ news, B.get? q.1 = some q.2

theorem fr_mem {env : Env} {outer : List Env} {L b : Addr} (hf : env.frame = some L) (hm : b ∈ fr (env :: outer)) : b = L ∨ b ∈ fr outer := by
  obtain ⟨x, he, hb⟩ := List.mem_filterMap.mp hm
  rcases List.mem_cons.mp he with rfl | he
  · rw [hf] at hb
    exact .inl (Option.some.inj hb).symm
  · exact .inr (List.mem_filterMap.mpr ⟨x, he, hb⟩)

theorem turn_back {fs : List Addr} {g g' : Heap} (T : KtsTurn fs g g') {b : Addr} {o : Obj} (e : g'.get? b = some o) (n : b ∉ fs) : g.get? b = some o := by
  cases q : g.get? b with
  | none => rw [T.none_ b q] at e; cases e
  | some o' => rw [T.other b o' q n] at e; exact e

section
variable {prog : Program} {w : World} {K : Frag} {p : Program} {loose : List Str} {mean : ExcName → Option Value} {mg mb : Str → Option Value} {CE : Addr}

/-- what a call of f at vs does, over base and the ledger -/
def Spec (prog : Program) (w : World) (K : Frag) (p : Program) (loose : List Str) (mean : ExcName → Option Value) (mg mb : Str → Option Value) (CE : Addr) (k : Nat) (base : Heap) (news : List (Addr × Obj))
    (f : Addr) (vs : List Value) (OK : List (Addr × Obj) → Value → Prop) (ER : Prop) : Prop :=
  ∀ (A A₀ : Around) (outer : List Env) (cn : Str) (cs : Scope) (a L : Addr) (ccd : Value) (g0 h₀ : Heap) (m : Str → Option Value) (s : Shared) (Q E : Value → Shared → Prop),
    A.frames = some (envOf cn cs L a ccd :: outer) → cs.kind = .function → A.handled = none → A.depth + k < recursionLimit → A.units + 8 * k + 100 < cLine →
    Cx K p loose mean mg mb A₀ base outer g0 h₀ → Fr h₀ L s.heap m → News h₀ L s.heap news →
    (∀ v h₁ news' h' tk', Sub news news' → Cx K p loose mean mg mb A₀ base outer g0 h₁ → Fr h₁ L h' m → News h₁ L h' news' → OK news' v → Q v { s with heap := h', toks := tk' }) →
    (ER → ∀ e h₁ h' tk', Cx K p loose mean mg mb A₀ base outer g0 h₁ → Fr h₁ L h' m → News h₁ L h' news → Fl CE base h₁ outer news (envOf cn cs L a ccd :: outer) e h' → E (.ref e) { s with heap := h', toks := tk' }) →
    wpAny (model prog w) A (call (.ref f) vs) Q E s

theorem enter {k : Nat} {base : Heap} {news : List (Addr × Obj)} {f : Addr} {vs : List Value} {OK : List (Addr × Obj) → Value → Prop} {ER : Prop}
    {name qual : Str} {params : Arguments} {body : List Stmt} {scope : Scope} {dV kV doc pm cdv ct oc : Value} {an od : Option Addr} {osl : Array (Option Value)} {binds : List (Str × Value)}
    (ho : K.lookup f = some ⟨oc, od, .func (fnOf name qual params body scope dV kV doc pm an cdv ct), osl⟩) (hcd : codeIn K cdv qual = true)
    (hbind : ∀ s, BindsTo s (fnOf name qual params body scope dV kV doc pm an cdv ct) ⟨vs, []⟩ binds) (hloc : ∀ y ∈ binds, scope.names.lookup y.1 = some .local)
    (hco : scope.isCoroutine = false) (hgen : scope.isGenerator = false) (hk : scope.kind = .function) (hcell : ∀ x ∈ scope.names, x.2 ≠ .cell)
    (body_ok : ∀ (A A₀ : Around) (outer : List Env) (g h₁ : Heap) (L : Addr) (s : Shared) (P X : Value → Shared → Prop),
      A.frames = some (envOf qual scope L f cdv :: outer) → A.handled = none → A.depth + k < recursionLimit → A.units + 8 * k + 100 < cLine →
      Cx K p loose mean mg mb A₀ base outer g g → K.In g → Top p loose mean mg mb g → Fr g L h₁ (fun y => binds.reverse.lookup y) → News g L h₁ news →
      (∀ v g' news' h' tk' m', Sub news news' → Cx K p loose mean mg mb A₀ base outer g g' → Fr g' L h' m' → News g' L h' news' → OK news' v → P v { s with heap := h', toks := tk' }) →
      (ER → ∀ e g' news' h' tk' m', Sub news news' → Cx K p loose mean mg mb A₀ base outer g g' → Fr g' L h' m' → News g' L h' news' → Fl CE base g' outer news' (envOf qual scope L f cdv :: outer) e h' → X (.ref e) { s with heap := h', toks := tk' }) →
      wpAny (model prog w) A (execs body (envOf qual scope L f cdv)) (fun fl s' => P (match fl with | .ret v => v | _ => .none) s') X { s with heap := h₁, toks := s.toks + binds.length }) :
    Spec prog w K p loose mean mg mb CE (k + 1) base news f vs OK ER := by
  intro A A₀ outer cn cs a L ccd g0 h₀ m s Q E hA hck hh hd hu C F N ret exc
  refine wpAny_call (code_defS (g₀ := g0) C.B F C.X N C.T C.XB C.TB C.D C.T0 hA ho hcd (by omega) (hbind s) hloc (fun g L' h₁ FG F' N' B' X' T' D' => ?_) hck hco hgen hk hcell)
  have fresh : ∀ q ∈ news, q.1 ≠ L ∧ h₀.get? q.1 = none := fun q hq => (N q hq).2
  refine wpAny_mono (body_ok (A.deeper (envOf qual scope L' f cdv)) A (envOf cn cs L a ccd :: outer) g h₁ L' s
    (fun v s' => LeaveS (fr (envOf cn cs L a ccd :: outer)) A₀ base outer K p loose mean mg mb g0 h₀ L m g (fun r s' => match r with | .ok (.ret v) => Q v s' | .ok _ => False | .error e => E e s') v s')
    (fun e s' => wpAny (model prog w) (A.deeper (envOf qual scope L' f cdv)) (leaving (envOf qual scope L' f cdv) e) (fun _ s'' => E e s'') (fun e' s'' => E e' s'') s')
    (Around.frames_deeper hA) hh ?_ ?_ ⟨B', C.XB, C.TB, D', KtsTurn.refl⟩ X' T' F' N' ?_ ?_) (fun _ _ x => x) (fun _ _ x => x)
  · rw [depth_deeper]; omega
  · rw [units_deeper]; omega
  · intro v g' news' h' tk' m' sub C' Fr' Nr' ok
    exact leaveS_r Fr' Nr' C'.T0 fun h₀' T₁ F₁ N₁ B₁ X₁ P₁ D₁ => ret v h₀' news' h' tk' sub ⟨B₁, C.XB, C.TB, D₁, T₁⟩ F₁ N₁ ok
  · intro er e g' news' h' tk' m' sub C' Fr' Nr' fl
    obtain ⟨B, dx, od, b1, b2, b3, b4, b5, b6, b7, b8, b9⟩ := fl
    refine leaveX (base := B) (Around.frames_deeper hA) b4 rfl b2 b3 b5 fun h₂ c1 c2 c3 c4 => ?_
    have nL : h₀.get? L = none := kts_self F
    have toB : ∀ b o, h₀.get? b = some o → b ∉ fr outer → B.get? b = some o := fun b o e' nm => by
      have out : b ∉ fr (envOf cn cs L a ccd :: outer) := fun q => by
        rcases fr_mem rfl q with z | z
        · rw [z, nL] at e'; cases e'
        · exact nm z
      exact b8 b o (C'.T0.other b o (FG.keep b o e') out) out
    have upg : g.UpToSlots h₂ := fun b o e' hn => by
      obtain ⟨sl, hs⟩ := C'.T0.up e'
      obtain ⟨sl2, hs2⟩ := c4 b _ (Fr'.keep b _ hs) hn
      exact ⟨sl2, hs2⟩
    obtain ⟨h₃, T₃, C₃, F₃, N₃⟩ := reground (h' := h₂) (news := news) C FG fresh (fun b o e' nm => c1 b o (toB b o e' nm)) (fun q hq => c1 _ _ (b9 q (sub q hq))) upg
    exact exc er e h₃ h₂ tk' C₃ F₃ N₃ ⟨B, dx, od, b1, c1, b3, c2, c3, b6, b7, fun b o e' nm => toB b o (turn_back T₃ e' nm) nm, fun q hq => b9 q (sub q hq)⟩


def mapOf : List (Str × Value) → Str → Option Value
  | [] => fun _ => none
  | (x, v) :: r => fun y => if y = x then some v else mapOf r y
theorem lookup_mapOf (y : Str) : ∀ l : List (Str × Value), l.lookup y = mapOf l y
  | [] => rfl
  | (x, v) :: r => by
    unfold mapOf
    rw [List.lookup_cons]
    by_cases h : y = x
    · rw [if_pos h, beq_iff_eq.mpr h]
    · rw [if_neg h, show (y == x) = false from beq_eq_false_iff_ne.mpr h]
      exact lookup_mapOf y r
theorem map_cons {x : Str} {v : Value} {m : Str → Option Value} {l : List (Str × Value)} (h : m = mapOf l) : (fun y => if y = x then some v else m y) = mapOf ((x, v) :: l) := by subst h; rfl
theorem mapOf_none {y : Str} : ∀ {l : List (Str × Value)}, (∀ q ∈ l, q.1 ≠ y) → mapOf l y = none
  | [], _ => rfl
  | q :: r, h => by
    unfold mapOf
    rw [if_neg (fun e => h q (.head _) e.symm)]
    exact mapOf_none fun q' h' => h q' (.tail _ h')
theorem map_ext {l l' : List (Str × Value)} (h : ∀ q ∈ l, mapOf l q.1 = mapOf l' q.1) (h' : ∀ q ∈ l', mapOf l q.1 = mapOf l' q.1) : mapOf l = mapOf l' := by
  funext y
  by_cases a : ∃ q ∈ l, q.1 = y
  · obtain ⟨q, hq, rfl⟩ := a
    exact h q hq
  by_cases b : ∃ q ∈ l', q.1 = y
  · obtain ⟨q, hq, rfl⟩ := b
    exact h' q hq
  · rw [mapOf_none fun q hq e => a ⟨q, hq, e⟩, mapOf_none fun q hq e => b ⟨q, hq, e⟩]

theorem enterN {k : Nat} {base : Heap} {news : List (Addr × Obj)} {f : Addr} {vs : List Value} {OK : List (Addr × Obj) → Value → Prop}
    {name qual : Str} {params : Arguments} {body : List Stmt} {scope : Scope} {dV kV doc pm cdv ct oc : Value} {an od : Option Addr} {osl : Array (Option Value)} (binds rb : List (Str × Value)) (hrb : binds.reverse = rb)
    (ho : K.lookup f = some ⟨oc, od, .func (fnOf name qual params body scope dV kV doc pm an cdv ct), osl⟩) (hcd : codeIn K cdv qual = true)
    (hbind : ∀ s, BindsTo s (fnOf name qual params body scope dV kV doc pm an cdv ct) ⟨vs, []⟩ binds) (hloc : ∀ y ∈ binds, scope.names.lookup y.1 = some .local)
    (hco : scope.isCoroutine = false) (hgen : scope.isGenerator = false) (hk : scope.kind = .function) (hcell : ∀ x ∈ scope.names, x.2 ≠ .cell)
    (body_ok : ∀ (A A₀ : Around) (outer : List Env) (g h₁ : Heap) (L : Addr) (s : Shared) (P : Value → Shared → Prop),
      A.frames = some (envOf qual scope L f cdv :: outer) → A.handled = none → A.depth + k < recursionLimit → A.units + 8 * k + 100 < cLine →
      Cx K p loose mean mg mb A₀ base outer g g → K.In g → Top p loose mean mg mb g → Fr g L h₁ (mapOf rb) → News g L h₁ news →
      (∀ v g' news' h' tk' m', Sub news news' → Cx K p loose mean mg mb A₀ base outer g g' → Fr g' L h' m' → News g' L h' news' → OK news' v → P v { s with heap := h', toks := tk' }) →
      wpAny (model prog w) A (execs body (envOf qual scope L f cdv)) (fun fl s' => P (match fl with | .ret v => v | _ => .none) s') (fun _ _ => False) { s with heap := h₁, toks := s.toks + binds.length }) :
    Spec prog w K p loose mean mg mb CE (k + 1) base news f vs OK False :=
  enter ho hcd hbind hloc hco hgen hk hcell fun A A₀ outer g h₁ L s P _ hA hh hd hu C KX T F N ret _ =>
    wpAny_mono (body_ok A A₀ outer g h₁ L s P hA hh hd hu C KX T (by subst hrb; rw [← show (fun y => binds.reverse.lookup y) = mapOf binds.reverse from funext fun y => lookup_mapOf y _]; exact F) N ret) (fun _ _ x => x) (fun _ _ x => x.elim)

theorem enterX {k : Nat} {base : Heap} {news : List (Addr × Obj)} {f : Addr} {vs : List Value} {OK : List (Addr × Obj) → Value → Prop} {ER : Prop}
    {name qual : Str} {params : Arguments} {body : List Stmt} {scope : Scope} {dV kV doc pm cdv ct oc : Value} {an od : Option Addr} {osl : Array (Option Value)} (binds rb : List (Str × Value)) (hrb : binds.reverse = rb)
    (ho : K.lookup f = some ⟨oc, od, .func (fnOf name qual params body scope dV kV doc pm an cdv ct), osl⟩) (hcd : codeIn K cdv qual = true)
    (hbind : ∀ s, BindsTo s (fnOf name qual params body scope dV kV doc pm an cdv ct) ⟨vs, []⟩ binds) (hloc : ∀ y ∈ binds, scope.names.lookup y.1 = some .local)
    (hco : scope.isCoroutine = false) (hgen : scope.isGenerator = false) (hk : scope.kind = .function) (hcell : ∀ x ∈ scope.names, x.2 ≠ .cell)
    (body_ok : ∀ (A A₀ : Around) (outer : List Env) (g h₁ : Heap) (L : Addr) (s : Shared) (P : Value → Shared → Prop),
      A.frames = some (envOf qual scope L f cdv :: outer) → A.handled = none → A.depth + k < recursionLimit → A.units + 8 * k + 100 < cLine →
      Cx K p loose mean mg mb A₀ base outer g g → K.In g → Top p loose mean mg mb g → Fr g L h₁ (mapOf rb) → News g L h₁ news →
      (∀ v g' news' h' tk' m', Sub news news' → Cx K p loose mean mg mb A₀ base outer g g' → Fr g' L h' m' → News g' L h' news' → OK news' v → P v { s with heap := h', toks := tk' }) →
      ∀ X : Value → Shared → Prop, (ER → ∀ e g' news' h' tk' m', Sub news news' → Cx K p loose mean mg mb A₀ base outer g g' → Fr g' L h' m' → News g' L h' news' → Fl CE base g' outer news' (envOf qual scope L f cdv :: outer) e h' → X (.ref e) { s with heap := h', toks := tk' }) →
      wpAny (model prog w) A (execs body (envOf qual scope L f cdv)) (fun fl s' => P (match fl with | .ret v => v | _ => .none) s') X { s with heap := h₁, toks := s.toks + binds.length }) :
    Spec prog w K p loose mean mg mb CE (k + 1) base news f vs OK ER :=
  enter ho hcd hbind hloc hco hgen hk hcell fun A A₀ outer g h₁ L s P X hA hh hd hu C KX T F N ret exc =>
    body_ok A A₀ outer g h₁ L s P hA hh hd hu C KX T (by subst hrb; rw [← show (fun y => binds.reverse.lookup y) = mapOf binds.reverse from funext fun y => lookup_mapOf y _]; exact F) N ret X exc

theorem Spec.useR {k j : Nat} {base : Heap} {news : List (Addr × Obj)} {f : Addr} {vs : List Value} {OK : List (Addr × Obj) → Value → Prop} {ER : Prop} (S : Spec prog w K p loose mean mg mb CE k base news f vs OK ER)
    {A A₀ : Around} {outer : List Env} {cn : Str} {cs : Scope} {a L : Addr} {ccd : Value} {g0 h₀ : Heap} {m : Str → Option Value} {s : Shared} {Q E : Value → Shared → Prop}
    (hA : A.frames = some (envOf cn cs L a ccd :: outer)) (hh : A.handled = none) (r : Room A j) (e : Nat.ble k j = true)
    (C : Cx K p loose mean mg mb A₀ base outer g0 h₀) (F : Fr h₀ L s.heap m) (N : News h₀ L s.heap news)
    (ret : ∀ v h₁ news' h' tk', Sub news news' → Cx K p loose mean mg mb A₀ base outer g0 h₁ → Fr h₁ L h' m → News h₁ L h' news' → OK news' v → Q v { s with heap := h', toks := tk' })
    (exc : ER → ∀ e h₁ h' tk', Cx K p loose mean mg mb A₀ base outer g0 h₁ → Fr h₁ L h' m → News h₁ L h' news → Fl CE base h₁ outer news (envOf cn cs L a ccd :: outer) e h' → E (.ref e) { s with heap := h', toks := tk' })
    (hck : cs.kind = .function) : wpAny (model prog w) A (call (.ref f) vs) Q E s :=
  S A A₀ outer cn cs a L ccd g0 h₀ m s Q E hA hck hh (r.d e) (r.u e) C F N ret exc
end
end
section

/-- at D stands the pair (a, b): in the ledger or in what the call found -/
def FA (base : Heap) (l : List (Addr × Obj)) (D : Addr) (a b : Int) : Prop :=
  ∃ o ta tb n, o.cls = .type "tuple" ∧ o.data = .seq #[.int a ta, .int b tb] n ∧ ((D, o) ∈ l ∨ base.get? D = some o)

theorem Sub.refl {l : List (Addr × Obj)} : Sub l l := fun _ h => h
theorem Sub.cons {l l' : List (Addr × Obj)} {q : Addr × Obj} (h : Sub l l') : Sub l (q :: l') := fun _ x => .tail _ (h _ x)
theorem Sub.trans {l l' l'' : List (Addr × Obj)} (h : Sub l l') (h' : Sub l' l'') : Sub l l'' := fun _ x => h' _ (h _ x)
theorem Sub.nil {l' : List (Addr × Obj)} : Sub [] l' := fun _ x => nomatch x
theorem Sub.both {q : Addr × Obj} {l l' : List (Addr × Obj)} (h : Sub l l') : Sub (q :: l) (q :: l') := fun x hx => by
  rcases List.mem_cons.mp hx with rfl | hx
  · exact .head _
  · exact .tail _ (h _ hx)

theorem FA.mono {base : Heap} {l l' : List (Addr × Obj)} {D : Addr} {a b : Int} (x : FA base l D a b) (h : Sub l l') : FA base l' D a b :=
  let ⟨o, ta, tb, n, hc, hd, hp⟩ := x; ⟨o, ta, tb, n, hc, hd, hp.imp (h _) id⟩
theorem FA.of_new {base : Heap} {l : List (Addr × Obj)} {D : Addr} {a b : Int} {ta tb : Tok} {n : Nat} (h : (D, ({ cls := .type "tuple", data := .seq [.int a ta, .int b tb].toArray n } : Obj)) ∈ l) : FA base l D a b :=
  ⟨_, ta, tb, n, rfl, rfl, .inl h⟩
theorem FA.of_K {K : Frag} {base : Heap} {l : List (Addr × Obj)} {D : Addr} {a b : Int} {ta tb : Tok} {n : Nat} {dd : Option Addr} {sl : Array (Option Value)} (X : K.In base) (h : K.lookup D = some { cls := .type "tuple", dict := dd, data := .seq #[.int a ta, .int b tb] n, slots := sl }) : FA base l D a b :=
  ⟨_, ta, tb, n, rfl, rfl, .inr (X _ _ h)⟩

theorem newsSub {h₀ h : Heap} {L : Addr} {l l' : List (Addr × Obj)} (N : News h₀ L h l') (s : Sub l l') : News h₀ L h l := fun q hq => N q (s q hq)
theorem frMap {h₀ h : Heap} {L : Addr} {m m' : Str → Option Value} (F : Fr h₀ L h m) (e : m = m') : Fr h₀ L h m' := e ▸ F
theorem fmod_nat (x y : Nat) : (x : Int).fmod y = ((x % y : Nat) : Int) := by rw [Int.fmod_eq_emod_of_nonneg _ (Int.natCast_nonneg y)]; rfl
theorem fdiv_nat (x y : Nat) : (x : Int).fdiv y = ((x / y : Nat) : Int) := by rw [Int.fdiv_eq_ediv_of_nonneg _ (Int.natCast_nonneg y)]; rfl
section
variable {K : Frag} {p : Program} {loose : List Str} {mean : ExcName → Option Value} {mg mb : Str → Option Value} {A₀ : Around} {base g0 h₀ h : Heap} {outer : List Env} {L D D' : Addr} {m : Str → Option Value} {l l' news : List (Addr × Obj)} {a b c d : Int}
theorem FA.tup (C : Cx K p loose mean mg mb A₀ base outer g0 h₀) (F : Fr h₀ L h m) (N : News h₀ L h news) (x : FA base l D a b) (hs : Sub l news) : ∃ o ta tb n, h.get? D = some o ∧ o.cls = .type "tuple" ∧ o.data = .seq #[.int a ta, .int b tb] n :=
  let ⟨o, ta, tb, n, hc, hd, hp⟩ := x
  ⟨o, ta, tb, n, hp.elim (fun q => (N _ (hs _ q)).1) fun q => F.keep _ _ (C.B.stays _ _ q), hc, hd⟩
theorem FA.reads (C : Cx K p loose mean mg mb A₀ base outer g0 h₀) (F : Fr h₀ L h m) (N : News h₀ L h news) (x : FA base l D a b) (hs : Sub l news) : Reads h (.ref D) (.tuple [.int a, .int b]) [] := by
  obtain ⟨o, ta, tb, n, ho, hc, hd⟩ := x.tup C F N hs
  exact reads_tuple_at ho hc hd (ReadsAll.cons (Reads.int _ _) (ReadsAll.cons (Reads.int _ _) ReadsAll.nil))
end

section
variable {prog : Program} {w : World} {A : Around} {E : Value → Shared → Prop} {s : Shared} {K : Frag} {p : Program} {loose : List Str} {mean : ExcName → Option Value} {mg mb : Str → Option Value} {A₀ : Around} {base g0 h₀ : Heap} {outer : List Env} {L D D' : Addr} {m : Str → Option Value} {l l' news : List (Addr × Obj)} {a b c d : Int} {Q : Value → Shared → Prop} {value slice : PySem.Expr} {u : Tok}

theorem item0 (C : Cx K p loose mean mg mb A₀ base outer g0 h₀) (F : Fr h₀ L s.heap m) (N : News h₀ L s.heap news) (x : FA base l D a b) (hs : Sub l news) (k : ∀ t, Q (.int a t) s)
    (e : subscripted slice false (.ref D) (.int 0 u) = operate [.ref D, .int 0 u] (getItem (.ref D) (.int 0 u)) := by with_unfolding_all rfl) :
    wpAny (model prog w) A (subscriptTail value slice (.ref D) (.int 0 u)) Q E s := by
  obtain ⟨o, ta, tb, n, ho, hc, hd⟩ := x.tup C F N hs
  exact item_tupleT (l := [.int a ta, .int b tb]) (j := 0) ⟨o, ho, hc, n, hd⟩ (by decide) (by decide) rfl rfl (k ta) e
theorem item1 (C : Cx K p loose mean mg mb A₀ base outer g0 h₀) (F : Fr h₀ L s.heap m) (N : News h₀ L s.heap news) (x : FA base l D a b) (hs : Sub l news) (k : ∀ t, Q (.int b t) s)
    (e : subscripted slice false (.ref D) (.int 1 u) = operate [.ref D, .int 1 u] (getItem (.ref D) (.int 1 u)) := by with_unfolding_all rfl) :
    wpAny (model prog w) A (subscriptTail value slice (.ref D) (.int 1 u)) Q E s := by
  obtain ⟨o, ta, tb, n, ho, hc, hd⟩ := x.tup C F N hs
  exact item_tupleT (l := [.int a ta, .int b tb]) (j := 1) ⟨o, ho, hc, n, hd⟩ (by decide) (by decide) rfl rfl (k tb) e

theorem pair_eqv (a b c d : Int) : PyData.eqv (.tuple [.int a, .int b]) (.tuple [.int c, .int d]) = decide (a = c ∧ b = d) := by
  simp only [PyData.eqv, PyData.eqvAll, Bool.and_true]
  by_cases h : a = c <;> by_cases h' : b = d <;> simp [h, h']
theorem eqFA (C : Cx K p loose mean mg mb A₀ base outer g0 h₀) (F : Fr h₀ L s.heap m) (N : News h₀ L s.heap news) (x : FA base l D a b) (y : FA base l' D' c d) (hs : Sub l news) (hs' : Sub l' news) (hu : A.units + 64 < cLine)
    (k : Q (.bool (decide (a = c ∧ b = d))) s) : wpAny (model prog w) A (compareOp .Eq (.ref D) (.ref D')) Q E s :=
  eq_dataH (x.reads C F N hs) (y.reads C F N hs') rfl rfl hu (by rw [pair_eqv]; exact k)
theorem neFA (C : Cx K p loose mean mg mb A₀ base outer g0 h₀) (F : Fr h₀ L s.heap m) (N : News h₀ L s.heap news) (x : FA base l D a b) (y : FA base l' D' c d) (hs : Sub l news) (hs' : Sub l' news) (hu : A.units + 64 < cLine)
    (k : Q (.bool (!decide (a = c ∧ b = d))) s) : wpAny (model prog w) A (compareOp .NotEq (.ref D) (.ref D')) Q E s :=
  ne_dataH (x.reads C F N hs) (y.reads C F N hs') rfl rfl hu (by rw [pair_eqv]; exact k)
theorem eqNone (C : Cx K p loose mean mg mb A₀ base outer g0 h₀) (F : Fr h₀ L s.heap m) (N : News h₀ L s.heap news) (y : FA base l' D' c d) (hs' : Sub l' news) (hu : A.units + 64 < cLine)
    (k : Q (.bool false) s) : wpAny (model prog w) A (compareOp .Eq .none (.ref D')) Q E s :=
  eq_dataH Reads.none (y.reads C F N hs') rfl rfl hu k
theorem neStr {x : Str} {tx : Tok} (hx : SeqAt.shaped (.str x) = true) (C : Cx K p loose mean mg mb A₀ base outer g0 h₀) (F : Fr h₀ L s.heap m) (N : News h₀ L s.heap news) (y : FA base l D c d) (hs : Sub l news) (hu : A.units + 64 < cLine)
    (k : Q (.bool true) s) : wpAny (model prog w) A (compareOp .NotEq (.ref D) (.str x tx)) Q E s :=
  ne_dataH (y.reads C F N hs) (Reads.str _ _) rfl hx hu k
theorem strNe {x : Str} {tx : Tok} (hx : SeqAt.shaped (.str x) = true) (C : Cx K p loose mean mg mb A₀ base outer g0 h₀) (F : Fr h₀ L s.heap m) (N : News h₀ L s.heap news) (y : FA base l D c d) (hs : Sub l news) (hu : A.units + 64 < cLine)
    (k : Q (.bool true) s) : wpAny (model prog w) A (compareOp .NotEq (.str x tx) (.ref D)) Q E s :=
  ne_dataH (Reads.str _ _) (y.reads C F N hs) hx rfl hu k
theorem eqStrL {x : Str} {tx : Tok} (hx : SeqAt.shaped (.str x) = true) (C : Cx K p loose mean mg mb A₀ base outer g0 h₀) (F : Fr h₀ L s.heap m) (N : News h₀ L s.heap news) (y : FA base l D c d) (hs : Sub l news) (hu : A.units + 64 < cLine)
    (k : Q (.bool false) s) : wpAny (model prog w) A (compareOp .Eq (.str x tx) (.ref D)) Q E s :=
  eq_dataH (Reads.str _ _) (y.reads C F N hs) hx rfl hu k
theorem eqStrR {x : Str} {tx : Tok} (hx : SeqAt.shaped (.str x) = true) (C : Cx K p loose mean mg mb A₀ base outer g0 h₀) (F : Fr h₀ L s.heap m) (N : News h₀ L s.heap news) (y : FA base l D c d) (hs : Sub l news) (hu : A.units + 64 < cLine)
    (k : Q (.bool false) s) : wpAny (model prog w) A (compareOp .Eq (.ref D) (.str x tx)) Q E s :=
  eq_dataH (y.reads C F N hs) (Reads.str _ _) rfl hx hu k

theorem unpackFA {n : Nat} {Q : List Value → Shared → Prop} (C : Cx K p loose mean mg mb A₀ base outer g0 h₀) (F : Fr h₀ L s.heap m) (N : News h₀ L s.heap news) (x : FA base l D a b) (hs : Sub l news) (hh : A.handled = none) (hn : n = 2)
    (k : ∀ t t' h', Fr h₀ L h' m → News h₀ L h' news → Q [.int a t, .int b t'] { s with heap := h' }) : wpAny (model prog w) A (unpackItems (.ref D) n none) Q E s := by
  obtain ⟨o, ta, tb, n', ho, hc, hd⟩ := x.tup C F N hs
  exact unpackItemsN_ (items := #[.int a ta, .int b tb]) F N ⟨o, ho, hc, n', hd⟩ hh hn (fun h' F' N' => k ta tb h' F' N')
theorem newPair {ta tb : Tok} (_C : Cx K p loose mean mg mb A₀ base outer g0 h₀) (F : Fr h₀ L s.heap m) (N : News h₀ L s.heap news)
    (k : ∀ D news' h', Sub news news' → Fr h₀ L h' m → News h₀ L h' news' → FA base news' D a b → Q (.ref D) { s with heap := h' }) : wpAny (model prog w) A (newTuple [.int a ta, .int b tb]) Q E s :=
  newTuple_N F N (fun h' F' N' => k _ _ h' (Sub.cons Sub.refl) F' N' (FA.of_new (.head _))) (by rw [sizeLine_eq]; exact (by decide : 2 ≤ 16777216))
end

section
variable {prog : Program} {w : World} {A : Around} {E : Value → Shared → Prop} {s : Shared} {h₀ : Heap} {L : Addr} {news : List (Addr × Obj)} {Q : Flow → Shared → Prop} {test : PySem.Expr} {body : List Stmt} {pos : Pos} {env : Env} {m : Str → Option Value}
/-- a while: a state σ, the map that it is, what holds of it, what falls -/
theorem while_st {σ : Type} (mp : σ → List (Str × Value)) (Inv : σ → Prop) (μ : σ → Nat) (c₀ : σ) (F : Fr h₀ L s.heap m) (N : News h₀ L s.heap news) (e : m = mapOf (mp c₀)) (i : Inv c₀)
    (turn : ∀ (c : σ) (h : Heap) (tk : Nat) (G : Flow → Shared → Prop), Inv c → Fr h₀ L h (mapOf (mp c)) → News h₀ L h news →
      (∀ c' h' tk', Inv c' → μ c' < μ c → Fr h₀ L h' (mapOf (mp c')) → News h₀ L h' news → G .next { s with heap := h', toks := tk' }) →
      wpAny (model prog w) A (isTrue test env (eval test env)) (fun b s₂ => if b = true then wpAny (model prog w) A (execs body env) G E s₂ else Q .next s₂) E { s with heap := h, toks := tk })
    (hE : PassesOwn (model prog w) A env E) :
    wpAny (model prog w) A (exec (.While test body [] pos) env) Q E s := by
  subst e
  refine While_inv2 (fun n m nx => ∃ c, n = μ c ∧ m = mapOf (mp c) ∧ nx = news ∧ Inv c) F N ⟨c₀, rfl, rfl, rfl, i⟩ ?_ hE
  rintro n m₁ nx h tk F₁ N₁ ⟨c, rfl, rfl, rfl, hc⟩
  refine turn c h tk _ hc F₁ N₁ fun c' h' tk' hc' lt F' N' => ⟨h', tk', _, _, μ c', rfl, F', N', lt, c', rfl, rfl, rfl, hc'⟩
end
end
section

@[irreducible] def big : Nat := 2 ^ 8000
@[irreducible] def sml : Nat := 2 ^ 4000
theorem big_is : big = 2 ^ 8000 := by unfold big; rfl
theorem sml_is : sml = 2 ^ 4000 := by unfold sml; rfl
theorem sml_sq : sml * sml = big := by rw [sml_is, big_is, ← Nat.pow_add]
theorem pow_le_big {k : Nat} (h : k ≤ 8000) : 2 ^ k ≤ big := by rw [big_is]; exact Nat.pow_le_pow_right (by decide) h
theorem pow_le_sml {k : Nat} (h : k ≤ 4000) : 2 ^ k ≤ sml := by rw [sml_is]; exact Nat.pow_le_pow_right (by decide) h
theorem sml_ge : 16 ≤ sml := pow_le_sml (k := 4) (by decide)
theorem sml_big {c : Nat} (hc : c ≤ 16) : c * sml ≤ big := by rw [← sml_sq]; exact Nat.mul_le_mul_right _ (Nat.le_trans hc sml_ge)

theorem log2_big {a : Nat} (h : a < big) : a.log2 < 8000 := by
  by_cases e : a = 0
  · rw [e, Nat.log2_zero]; decide
  · exact (Nat.log2_lt e).mpr (big_is ▸ h)
theorem bits_big {a : Int} (h : a.natAbs < big) : Builtin.Int.intBits a ≤ 8000 := by
  unfold Builtin.Int.intBits
  split
  · exact Nat.zero_le _
  · exact log2_big h
theorem noPy {x y : Int} (h : y.natAbs < big) : Builtin.divisionGoesByPylong x y = false := PyProof.noPylong_of_log2 (Nat.lt_trans (log2_big h) (by decide))
theorem mulFit {a b : Int} (ha : a.natAbs < big) (hb : b.natAbs < big) : IntMulOk a b := by
  have h1 := bits_big ha
  have h2 := bits_big hb
  unfold IntMulOk
  have e : Builtin.Int.intTooBig (Builtin.Int.intBits a + Builtin.Int.intBits b) = false := by
    unfold Builtin.Int.intTooBig
    have : ((bitsLine : Nat) : Int) = 134217728 := rfl
    exact decide_eq_false (by omega)
  rw [e, Bool.and_false]
  exact Bool.false_ne_true
theorem powFit {a n : Int} (ha : a.natAbs < big) (h0 : 0 ≤ n) (hn : n ≤ 4096) : (Builtin.Int.intBits a : Int) * n ≤ 2 ^ 27 := by
  have h1 := bits_big ha
  have : (Builtin.Int.intBits a : Int) * n ≤ 8000 * 4096 := Int.mul_le_mul (by omega) hn h0 (by decide)
  exact Int.le_trans this (by decide)

/-- the side of the square below n -/
def sq : Nat → Nat
  | 0 => 0
  | n + 1 => if (sq n + 1) * (sq n + 1) ≤ n + 1 then sq n + 1 else sq n
theorem sq_spec : ∀ n, sq n * sq n ≤ n ∧ n < (sq n + 1) * (sq n + 1)
  | 0 => ⟨Nat.le_refl _, by decide⟩
  | n + 1 => by
    obtain ⟨h1, h2⟩ := sq_spec n
    unfold sq
    split
    · rename_i h
      refine ⟨h, ?_⟩
      have : (sq n + 1 + 1) * (sq n + 1 + 1) = (sq n + 1) * (sq n + 1) + 2 * (sq n + 1) + 1 := by grind
      omega
    · rename_i h
      exact ⟨by omega, by omega⟩
theorem sq_uniq {r n : Nat} (h1 : r * r ≤ n) (h2 : n < (r + 1) * (r + 1)) : r = sq n := by
  obtain ⟨k1, k2⟩ := sq_spec n
  rcases Nat.lt_trichotomy r (sq n) with h | h | h
  · have := Nat.mul_le_mul (show r + 1 ≤ sq n from h) (show r + 1 ≤ sq n from h)
    omega
  · exact h
  · have := Nat.mul_le_mul (show sq n + 1 ≤ r from h) (show sq n + 1 ≤ r from h)
    omega
theorem sq_le (n : Nat) : sq n ≤ n := by
  obtain ⟨k1, k2⟩ := sq_spec n
  rcases Nat.eq_zero_or_pos (sq n) with h | h
  · omega
  · exact Nat.le_trans (Nat.le_mul_of_pos_left _ h) k1
theorem sq_sq (a : Nat) : sq (a * a) = a := (sq_uniq (Nat.le_refl _) (by grind)).symm
theorem sq_pos {n : Nat} (h : 0 < n) : 0 < sq n := by
  obtain ⟨k1, k2⟩ := sq_spec n
  rcases Nat.eq_zero_or_pos (sq n) with h' | h'
  · rw [h'] at k2; omega
  · exact h'

/-- one turn of Newton's does not fall below the side -/
theorem newton_ge {n g : Nat} (hg : 0 < g) : sq n ≤ (g + n / g) / 2 := by
  obtain ⟨k1, k2⟩ := sq_spec n
  generalize sq n = s at *
  have hd := Nat.div_add_mod n g
  have hm := Nat.mod_lt n hg
  generalize n / g = q at *
  generalize n % g = r at *
  rw [Nat.le_div_iff_mul_le (by decide)]
  apply Nat.le_of_not_lt
  intro hlt
  have h1 : g + (q + 1) ≤ 2 * s := by omega
  have h2 := Nat.mul_le_mul h1 h1
  have h3 : s * s < g * (q + 1) := by
    have : g * (q + 1) = g * q + g := by grind
    omega
  have h4 : 4 * (g * (q + 1)) ≤ (g + (q + 1)) * (g + (q + 1)) := by
    have key : ∀ a b : Nat, a ≤ b → 4 * (a * b) ≤ (a + b) * (a + b) := fun a b hab => by
      obtain ⟨d, rfl⟩ := Nat.exists_eq_add_of_le hab
      have : (a + (a + d)) * (a + (a + d)) = 4 * (a * (a + d)) + d * d := by grind
      omega
    rcases Nat.le_total g (q + 1) with h | h
    · exact key _ _ h
    · rw [Nat.mul_comm g, Nat.add_comm g]; exact key _ _ h
  have h5 : 2 * s * (2 * s) = 4 * (s * s) := by grind
  omega
theorem newton_end {n g : Nat} (hs : sq n ≤ g) (hge : ¬ (g + n / g) / 2 < g) : g = sq n := by
  obtain ⟨k1, k2⟩ := sq_spec n
  rcases Nat.eq_zero_or_pos g with h0 | hg
  · omega
  apply Nat.le_antisymm _ hs
  apply Nat.le_of_not_lt
  intro hlt
  have h1 : (sq n + 1) * (sq n + 1) ≤ g * g := Nat.mul_le_mul hlt hlt
  have h2 : n / g < g := (Nat.div_lt_iff_lt_mul hg).mpr (by omega)
  omega

section
variable {prog : Program} {w : World} {A : Around} {E : Value → Shared → Prop} {s : Shared} {a b : Int} {t u : Tok} {Q : Value → Shared → Prop}
theorem rFloor (hb : b ≠ 0) (hp : b.natAbs < big) (h : ∀ t, Q (.int (a.fdiv b) t) { s with toks := s.toks + 1 }) : wpAny (model prog w) A (binaryOp .FloorDiv (.int a t) (.int b u)) Q E s :=
  floordiv_int hb (h _) (Or.inl (noPy hp))
theorem rMod (hb : b ≠ 0) (h : ∀ t, Q (.int (a.fmod b) t) { s with toks := s.toks + 1 }) : wpAny (model prog w) A (binaryOp .Mod (.int a t) (.int b u)) Q E s :=
  mod_int' hb (h _)
theorem rMul (ha : a.natAbs < big) (hb : b.natAbs < big) (h : ∀ t, Q (.int (a * b) t) { s with toks := s.toks + 1 }) : wpAny (model prog w) A (binaryOp .Mult (.int a t) (.int b u)) Q E s :=
  PyProof.Rows.mul_int (h _) (mulFit ha hb)
theorem rPow (h0 : 0 ≤ b) (hn : b ≤ 4096) (ha : a.natAbs < big) (h : ∀ t, Q (.int (a ^ b.toNat) t) { s with toks := s.toks + 1 }) : wpAny (model prog w) A (binaryOp .Pow (.int a t) (.int b u)) Q E s :=
  pow_int h0 (powFit ha h0 hn) (h _)
theorem rAbs (h : ∀ u tk, Q (.int (a.natAbs : Int) u) { s with toks := tk }) : wpAny (model prog w) A (call (.builtin "abs") [.int a t]) Q E s :=
  call_abs_int fun u tk => by
    have e : (if a < 0 then -a else a) = (a.natAbs : Int) := by split <;> omega
    rw [e]
    exact h u tk
end
end
section
open PySem.Builtin.ObjectAttr

section
variable {prog : Program} {w : World} {K : Frag} {p : Program} {loose : List Str} {mean : ExcName → Option Value} {mg mb : Str → Option Value}
/-- a call that may turn the ledger's objects -/
def SpecG (prog : Program) (w : World) (K : Frag) (p : Program) (loose : List Str) (mean : ExcName → Option Value) (mg mb : Str → Option Value) (k : Nat) (base : Heap) (news : List (Addr × Obj))
    (f : Addr) (vs : List Value) (OK : List (Addr × Obj) → Value → Prop) : Prop :=
  ∀ (A A₀ : Around) (outer : List Env) (cn : Str) (cs : Scope) (a L : Addr) (ccd : Value) (g0 h₀ : Heap) (m : Str → Option Value) (s : Shared) (R : Result → Shared → Prop),
    A.frames = some (envOf cn cs L a ccd :: outer) → cs.kind = .function → A.handled = none → A.depth + k < recursionLimit → A.units + 8 * k + 100 < cLine →
    Cx K p loose mean mg mb A₀ base outer g0 h₀ → Fr h₀ L s.heap m → News h₀ L s.heap news →
    (∀ v h₁ news' h' tk', Cx K p loose mean mg mb A₀ base outer g0 h₁ → Fr h₁ L h' m → News h₁ L h' news' → OK news' v → R (.ok (.ret v)) { s with heap := h', toks := tk' }) →
    codeAny (model prog w) A (.call (.ref f) ⟨vs, []⟩) R s

theorem enterG {k : Nat} {base : Heap} {news : List (Addr × Obj)} {f : Addr} {vs : List Value} {OK : List (Addr × Obj) → Value → Prop}
    {name qual : Str} {params : Arguments} {body : List Stmt} {scope : Scope} {dV kV doc pm cdv ct oc : Value} {an od : Option Addr} {osl : Array (Option Value)} (binds rb : List (Str × Value)) (hrb : binds.reverse = rb)
    (ho : K.lookup f = some ⟨oc, od, .func (fnOf name qual params body scope dV kV doc pm an cdv ct), osl⟩) (hcd : codeIn K cdv qual = true)
    (hbind : ∀ s, BindsTo s (fnOf name qual params body scope dV kV doc pm an cdv ct) ⟨vs, []⟩ binds) (hloc : ∀ y ∈ binds, scope.names.lookup y.1 = some .local)
    (hco : scope.isCoroutine = false) (hgen : scope.isGenerator = false) (hk : scope.kind = .function) (hcell : ∀ x ∈ scope.names, x.2 ≠ .cell)
    (body_ok : ∀ (A A₀ : Around) (outer : List Env) (g h₁ : Heap) (L : Addr) (s : Shared) (P : Value → Shared → Prop),
      A.frames = some (envOf qual scope L f cdv :: outer) → A.handled = none → A.depth + k < recursionLimit → A.units + 8 * k + 100 < cLine →
      Cx K p loose mean mg mb A₀ base outer g g → K.In g → Top p loose mean mg mb g → Fr g L h₁ (mapOf rb) → News g L h₁ news →
      (∀ v g' news' h' tk' m', Cx K p loose mean mg mb A₀ base outer g g' → Fr g' L h' m' → News g' L h' news' → OK news' v → P v { s with heap := h', toks := tk' }) →
      wpAny (model prog w) A (execs body (envOf qual scope L f cdv)) (fun fl s' => P (match fl with | .ret v => v | _ => .none) s') (fun _ _ => False) { s with heap := h₁, toks := s.toks + binds.length }) :
    SpecG prog w K p loose mean mg mb (k + 1) base news f vs OK := by
  intro A A₀ outer cn cs a L ccd g0 h₀ m s R hA hck hh hd hu C F N ret
  refine (code_defS (g₀ := g0) C.B F C.X N C.T C.XB C.TB C.D C.T0 hA ho hcd (by omega) (hbind s) hloc (fun g L' h₁ FG F' N' B' X' T' D' => ?_) hck hco hgen hk hcell)
  refine wpAny_mono (body_ok (A.deeper (envOf qual scope L' f cdv)) A (envOf cn cs L a ccd :: outer) g h₁ L' s
    (fun v s' => LeaveS (fr (envOf cn cs L a ccd :: outer)) A₀ base outer K p loose mean mg mb g0 h₀ L m g R v s')
    (Around.frames_deeper hA) hh ?_ ?_ ⟨B', C.XB, C.TB, D', KtsTurn.refl⟩ X' T' (by subst hrb; rw [← show (fun y => binds.reverse.lookup y) = mapOf binds.reverse from funext fun y => lookup_mapOf y _]; exact F') N' ?_) (fun _ _ x => x) (fun _ _ x => x.elim)
  · rw [depth_deeper]; omega
  · rw [units_deeper]; omega
  · intro v g' news' h' tk' m' C' Fr' Nr' ok
    exact leaveS_r Fr' Nr' C'.T0 fun h₀' T₁ F₁ N₁ B₁ X₁ P₁ D₁ => ret v h₀' news' h' tk' ⟨B₁, C.XB, C.TB, D₁, T₁⟩ F₁ N₁ ok

theorem SpecG.useR {k j : Nat} {base : Heap} {news : List (Addr × Obj)} {f : Addr} {vs : List Value} {OK : List (Addr × Obj) → Value → Prop} (S : SpecG prog w K p loose mean mg mb k base news f vs OK)
    {A A₀ : Around} {outer : List Env} {cn : Str} {cs : Scope} {a L : Addr} {ccd : Value} {g0 h₀ : Heap} {m : Str → Option Value} {s : Shared} {Q E : Value → Shared → Prop}
    (hA : A.frames = some (envOf cn cs L a ccd :: outer)) (hh : A.handled = none) (r : Room A j) (e : Nat.ble k j = true)
    (C : Cx K p loose mean mg mb A₀ base outer g0 h₀) (F : Fr h₀ L s.heap m) (N : News h₀ L s.heap news)
    (ret : ∀ v h₁ news' h' tk', Cx K p loose mean mg mb A₀ base outer g0 h₁ → Fr h₁ L h' m → News h₁ L h' news' → OK news' v → Q v { s with heap := h', toks := tk' })
    (hck : cs.kind = .function) : wpAny (model prog w) A (call (.ref f) vs) Q E s :=
  wpAny_call (S A A₀ outer cn cs a L ccd g0 h₀ m s _ hA hck hh (r.d e) (r.u e) C F N ret)
end

/-- the exception, bare and with its dict -/
abbrev excBare (C t : Addr) : Obj := { cls := .ref C, data := .fields #[.ref t, .none, .none, .none, .bool false, .none] }
abbrev excObj (C t dx : Addr) : Obj := { cls := .ref C, dict := some dx, data := .fields #[.ref t, .none, .none, .none, .bool false, .none] }

theorem passExc (self : Value) : refuseLoop self "__setattr__" [.type "Exception", .type "BaseException", .type "object"] = pure () := by kernel_rfl
theorem passOwn (self : Value) (a b : Addr) : refuseLoop self "__setattr__" [.ref a, .ref b, .type "Exception", .type "BaseException", .type "object"] = pure () := by
  rw [refuseLoop_ref, refuseLoop_ref, passExc]

section
variable {prog : Program} {w : World} {A : Around} {K : Frag} {C x L : Addr} {s : Shared} {h₀ : Heap} {m : Str → Option Value} {news pre post : List (Addr × Obj)} {R : Result → Shared → Prop}
theorem osa_exc {t : Addr} {tk : Tok} {v : Value} {name : Str} {cd : ClassData} {c2 : Addr} (F : Fr h₀ L s.heap m) (N : News h₀ L s.heap (pre ++ (x, excBare C t) :: post)) (X : K.In s.heap)
    (hc : clsIn K C = some cd) (hm : cd.mro = [.ref C, .ref c2, .type "Exception", .type "BaseException", .type "object"]) (hh : cd.hasDict = true) (ht : takerIn K C name = some none)
    (h1 : ∀ p ∈ pre, p.1 ≠ x) (h2 : ∀ p ∈ post, p.1 ≠ x)
    (h : ∀ dx h', Fr h₀ L h' m → News h₀ L h' ((dx, dictOf [⟨PyData.keyHash w.params name, .str name s.toks, v⟩] 1) :: (pre ++ (x, excObj C t dx) :: post)) → R (.ok (.ret .none)) { s with heap := h', toks := s.toks + 1 }) :
    codeAny (model prog w) A (.call (.builtin "object.__setattr__") ⟨[.ref x, .str name tk, v], []⟩) R s := by
  have I : W.InstAt s.heap x (excBare C t) C none := ⟨(N (x, excBare C t) (by simp)).1, rfl, rfl, trivial⟩
  have SF := PySem.F.store_object
  have ne : cd.mro.isEmpty = false := by rw [hm]; rfl
  have sub : Looks (model prog w) s.heap (isInstance (.ref x) (.type "object")) true := I.type.andThen (looks_mroIn X (by unfold mroIn; rw [hc, Option.bind_some, if_neg (by rw [ne]; decide), hm]; rfl))
  refine codeAny_call_builtin SF.slot.plain SF.entry (@check_slot (model prog w) _ _ s "object.__setattr__" "object" "__setattr__" (.ref x) [.str name tk, v] [] _ SF.kind SF.split sub (SF.args (.ref x) (.str name tk) v) ?_)
  obtain ⟨attr, ha, hr⟩ := Option.bind_eq_some_iff.mp ht
  have hM : Looks (model prog w) s.heap (mroOf (.ref C)) cd.mro := (looks_clsIn X hc).andThen .now
  have L3 : Looks (model prog w) s.heap (storeTaker? attr) none := by
    cases attr with
    | none => exact .now
    | some a =>
      obtain ⟨b, hb, e⟩ := Option.map_eq_some_iff.mp hr
      cases b
      · exact (looks_takesIn X hb).andThen .now
      · cases e
  rw [osa_eq, refuse_eq]
  refine wpAny_bind (wpAny_bind (I.type.here (wpAny_bind (hM.here ?_))))
  rw [hm, passOwn]
  refine wpAny_pure (wpAny_bind (I.type.here (wpAny_bind ((looks_findIn X ha).here (wpAny_bind (L3.here ?_))))))
  have hx := I.at_
  refine wpAny_bind (wpAny_pure (wpAny_bind (wpAny_bind (wpAny_loadPart hx (wpAny_bind ((looks_clsIn X hc).here ?_))))))
  rw [hh]
  have F1 := F.push (emptyDict)
  have N1 := N.push F (emptyDict)
  refine wpAny_bind (wpAny_alloc ?_)
  have F2 := F1
  obtain ⟨U1, U2⟩ := news_upd (f := fun o => { o with dict := some s.heap.objs.size }) (pre := (s.heap.objs.size, emptyDict) :: pre) (post := post) (d := x) (o := excBare C t) F1 N1 (fun q hq => by
    rcases List.mem_cons.mp hq with rfl | hq
    · intro z
      exact absurd (z ▸ Heap.lt_size hx) (Nat.lt_irrefl _)
    · exact h1 q hq) h2 rfl rfl
  have hx1 := (N1 (x, excBare C t) (by simp)).1
  refine wpAny_bind (wpAny_update hx1 ?_)
  refine wpAny_pure (wpAny_bind (wpAny_pure (wpAny_bind ?_)))
  have D := (U2 (s.heap.objs.size, emptyDict) (by simp)).1
  unfold nsSet
  refine wpAny_bind (wpAny_bind (wpAny_askSetting (wpAny_pure (wpAny_bind (wpAny_mkText (wpAny_bind (wpAny_loadPart D ?_)))))))
  have c : aRefKeyMayBeTheName name #[] = false := by rw [aRefKeyMayBeTheName_at]; simp
  show wpAny _ _ (if aRefKeyMayBeTheName name #[] = true then _ else _) _ _ _
  rw [c]
  have ne0 : ∀ p ∈ pre ++ (x, excObj C t s.heap.objs.size) :: post, p.1 ≠ s.heap.objs.size := fun p hp => by
    have lt : ∀ q ∈ pre ++ (x, excBare C t) :: post, q.1 < s.heap.objs.size := fun q hq => Heap.lt_size (N q hq).1
    have : ∃ q ∈ pre ++ (x, excBare C t) :: post, q.1 = p.1 := by
      rcases List.mem_append.mp hp with hp | hp
      · exact ⟨p, List.mem_append_left _ hp, rfl⟩
      · rcases List.mem_cons.mp hp with rfl | hp
        · exact ⟨(x, excBare C t), by simp, rfl⟩
        · exact ⟨p, List.mem_append_right _ (.tail _ hp), rfl⟩
    obtain ⟨q, hq, e⟩ := this
    exact fun z => absurd (z ▸ e ▸ lt q hq) (Nat.lt_irrefl _)
  have ep : Obj.putName name (PyData.keyHash w.params name) (.str name s.toks) v emptyDict = dictOf [⟨PyData.keyHash w.params name, .str name s.toks, v⟩] 1 := by
    have := putName_dict name (PyData.keyHash w.params name) (.str name s.toks) v [] 0
    exact this
  obtain ⟨V1, V2⟩ := news_upd (f := Obj.putName name (PyData.keyHash w.params name) (.str name s.toks) v) (pre := []) (d := s.heap.objs.size) (o := emptyDict) U1 U2 (fun _ h => nomatch h) ne0 ep rfl
  have D' := (V2 _ (.head _)).1
  refine wpAny_updatePart D ?_
  refine wpAny_bind (wpAny_lookBehind D' (pastItsLine_dict (by rw [List.size_toArray, sizeLine_eq]; simp)) ?_)
  exact wpAny_pure (h _ _ V1 V2)
end
abbrev excMro : List Value := [.type "Exception", .type "BaseException", .type "object"]
section
variable {prog : Program} {w : World} {A : Around} {K : Frag} {C L : Addr} {s : Shared} {h₀ : Heap} {m : Str → Option Value} {news : List (Addr × Obj)} {R : Result → Shared → Prop}
variable {nm q : Str} {N' : Addr} {bs bm : List Value} {hdct : Bool} {sn : List Str} {sub : List Value} {ab : Bool} {col : Option Bool} {dd : Option Addr} {k0 k1 k2 k3 k5 : Option Value}

theorem callX {rest : List Value} {fI : Addr} (F : Fr h₀ L s.heap m) (N : News h₀ L s.heap news) (X : K.In s.heap)
    (ho : K.lookup C = some (excClassObj nm q C N' bs bm hdct sn sub ab col dd k0 k1 k2 k3 k5 "Exception.__new__")) (ht : tailIn K excMro bm = true)
    (hi : findIn K (.ref C) "__init__" = some (some (.ref fI))) (hf : typeIn K (.ref fI) = some (.type "function")) (hrest : rest.length ≤ sizeLine)
    (h : ∀ e t h', (∀ q ∈ news, q.1 ≠ e) → Fr h₀ L h' m → News h₀ L h' ((e, excBare C t) :: news) →
      codeAny (model prog w) (A.under (.builtin "type.__call__" ⟨.ref C :: rest, []⟩)) (.call (.ref fI) ⟨.ref e :: rest, []⟩) (InitBack e R) { s with heap := h' }) :
    codeAny (model prog w) A (.call (.ref C) ⟨rest, []⟩) R s := by
  obtain ⟨hp, g, d, tk, os⟩ := s
  have hC : hp.get? C = some (excClassObj nm q C N' bs bm hdct sn sub ab col dd k0 k1 k2 k3 k5 "Exception.__new__") := X _ _ ho
  have T := tail_of_in X ht
  have Fn := PySem.F.excBase_Exception
  have f1 := tc_lookup
  have f2 := tc_bind (.ref C)
  have hT : (⟨hp, g, d, tk, os⟩ : Shared).TypeIs (.ref C) "type" := ⟨_, hC, rfl⟩
  refine codeAny_of_tree ?_
  show wpAny _ _ (callAny (.ref C) _) _ _ _
  repeat (any_goals (first | assumption | with_reducible refine wpAny_loadPart_at hC ?_ | wp_step))
  refine ⟨rfl, ?_⟩
  refine codeAny_call_builtin_at (Code.quiet_builtin _ (by decide +kernel)) entry_typeCall (wpAny_check_type_call_sub hC ?_)
  repeat (first | with_reducible refine wpAny_loadPart_at hC ?_ | with_reducible refine wpAny_madeBy_exc hC ?_ | wp_step)
  refine codeAny_call_builtin_code (Code.quiet_builtin _ Fn.quiet) (wpAny_check_new_subU Fn Fn.hasB T hC ?_)
  refine codeAny_exc_new_subU Fn Fn.hasB Fn T hC ?_ hrest
  show wpAny _ _ _ _ _ _
  have N1 : News h₀ L ((hp.push { cls := .type "tuple", data := .seq rest.toArray }).push (excBare C hp.objs.size)) ((hp.objs.size + 1, excBare C hp.objs.size) :: news) := by
    have := (N.push F { cls := .type "tuple", data := .seq rest.toArray }).push (F.push _) (excBare C hp.objs.size)
    rw [Heap.size_push] at this
    exact newsSub this (Sub.both (Sub.cons Sub.refl))
  have F1 := (F.push { cls := .type "tuple", data := .seq rest.toArray }).push (excBare C hp.objs.size)
  have hC₁ := Heap.get?_push_of_some (excBare C hp.objs.size) (Heap.get?_push_of_some { cls := .type "tuple", data := .seq rest.toArray } hC)
  have X1 : K.In ((hp.push { cls := .type "tuple", data := .seq rest.toArray }).push (excBare C hp.objs.size)) := X.keeps fun b o e => Heap.get?_push_of_some _ (Heap.get?_push_of_some _ e)
  have hget : ((hp.push { cls := .type "tuple", data := .seq rest.toArray }).push (excBare C hp.objs.size)).get? (hp.objs.size + 1) = some (excBare C hp.objs.size) := (N1 _ (.head _)).1
  have hcC : (Value.ref C :: bm).contains (.ref C) = true := by simp
  have t1 : Looks (model prog w) ((hp.push { cls := .type "tuple", data := .seq rest.toArray }).push (excBare C hp.objs.size)) (typeOf (.ref (hp.objs.size + 1))) (.ref C) := (Looks.ld hget).andThen .now
  have i1 := looks_findIn (M := model prog w) X1 hi
  have b1 := bind_fn (M := model prog w) X1 (.ref (hp.objs.size + 1)) hf
  unfold isInstance
  repeat (first | with_reducible refine wpAny_loadPart_at hget ?_ | (with_reducible refine wpAny_isSubtype_exc hC₁ ?_; rw [hcC]) | wp_step)
  refine wpAny_isSubtype_exc (C := C) hC₁ ?_
  rw [hcC, if_neg (by decide)]
  unfold callSpecial? specialOf
  simp only [List.append_eq, List.nil_append, List.map_nil, List.cons_append]
  repeat (first | with_reducible refine wpAny_call ?_ | lk)
  refine codeAny_mono (h _ _ _ (fun q hq z => by have := Heap.lt_size (N q hq).1; rw [z] at this; exact absurd this (Nat.not_lt.mpr (Nat.le_succ _))) F1 N1) fun r s' z => ?_
  rcases r with e | (v | _ | _ | _) <;> first | exact z | exact z.elim | skip
  obtain ⟨rfl, z⟩ := z
  exact wpAny_pure (wpAny_pure z)

theorem raiseStmtX {env : Env} {x : Sem Value} {Q : Flow → Shared → Prop} {E : Value → Shared → Prop} (hh : A.handled = none)
    (h : wpAny (model prog w) A x (fun v s₁ => ∃ e t dx bm, v = .ref e ∧ s₁.heap.get? C = some (excClassObj nm q C N' bs bm hdct sn sub ab col dd k0 k1 k2 k3 k5 "Exception.__new__") ∧ bm.contains (.type "BaseException") = true ∧
      s₁.heap.get? e = some (excObj C t dx) ∧ E (.ref e) s₁) E s) :
    wpAny (model prog w) A (raiseStmt env (some x) none) Q E s := by
  unfold raiseStmt
  refine wpAny_bind (wpAny_mono h (fun v s₁ h₁ => ?_) fun _ _ x => x)
  obtain ⟨e, t, dx, bm, rfl, hC, hbase, he, hE⟩ := h₁
  have hcB : (Value.ref C :: bm).contains (.type "BaseException") = true := by rw [List.contains_cons, hbase, Bool.or_true]
  obtain ⟨hp, g, d, tk, os⟩ := s₁
  repeat (first | with_reducible refine wpAny_loadPart_at he ?_ | with_reducible refine wpAny_loadPart_at hC ?_ | (with_reducible refine wpAny_isSubtype_exc hC ?_; rw [hcB]) | wp_step)
  exact wpAny_raiseNew_none hh hE

theorem raiseCallX {p : Program} {loose : List Str} {mg mb : Str → Option Value} {x nmE : Str} {sc : Scope} {a fI : Addr} {cd : Value} {np cpos pos : Pos} {e₀ : PySem.Expr} {arg : Tok → Value} {Q : Flow → Shared → Prop} {E : Value → Shared → Prop}
    (F : Fr h₀ L s.heap m) (N : News h₀ L s.heap news) (X : K.In h₀) (T : TopRead p loose mg mb h₀) (hh : A.handled = none)
    (ex : nsIn K mainGlobals x = some (some (.ref C)))
    (ho : K.lookup C = some (excClassObj nm q C N' bs bm hdct sn sub ab col dd k0 k1 k2 k3 k5 "Exception.__new__")) (ht : tailIn K excMro bm = true) (hbase : bm.contains (.type "BaseException") = true)
    (hi : findIn K (.ref C) "__init__" = some (some (.ref fI))) (hf : typeIn K (.ref fI) = some (.type "function"))
    (hev : ∀ E s, (∀ b o, h₀.get? b = some o → s.heap.get? b = some o) → ∀ Q : List Value → Shared → Prop, (∀ tk tk', Q [arg tk] { s with toks := tk' }) → wpAny (model prog w) A (spliced (backTo cpos (starEach [e₀] (envOf nmE sc L a cd)))) Q E s)
    (h : ∀ k k' e t h', (∀ q ∈ news, q.1 ≠ e) → Fr h₀ L h' m → News h₀ L h' ((e, excBare C t) :: news) →
      codeAny (model prog w) (A.under (.builtin "type.__call__" ⟨[.ref C, arg k], []⟩)) (.call (.ref fI) ⟨[.ref e, arg k], []⟩)
        (InitBack e (fun r s' => match r with | .ok (.ret v) => (∃ t dx, s'.heap.get? e = some (excObj C t dx) ∧ K.In s'.heap ∧ E (.ref e) s') ∧ v = .ref e | .ok _ => False | .error _ => False)) { s with heap := h', toks := k' })
    (he : starEach [e₀] (envOf nmE sc L a cd) = [(false, eval e₀ (envOf nmE sc L a cd))] := by rfl)
    (hk : sc.kind = .function := by rfl) (hx : (envOf nmE sc L a cd).kindOf x = some .globalImplicit := by rfl) (hd : (x == ("__debug__" : Str)) = false := by decide) :
    wpAny (model prog w) A (exec (.Raise (some (.Call (.Name x np) [e₀] [] cpos)) none pos) (envOf nmE sc L a cd)) Q E s := by
  rw [arm_exec_Raise]
  have key : wpAny (model prog w) A (eval (.Call (.Name x np) [e₀] [] cpos) (envOf nmE sc L a cd)) (fun v s₁ => ∃ e t dx bm, v = .ref e ∧ s₁.heap.get? C = some (excClassObj nm q C N' bs bm hdct sn sub ab col dd k0 k1 k2 k3 k5 "Exception.__new__") ∧ bm.contains (.type "BaseException") = true ∧
      s₁.heap.get? e = some (excObj C t dx) ∧ E (.ref e) s₁) E s := by
    refine wpAny_Call_ofName (name_K F X T ex ?_ hk hx hd)
    unfold callWith
    refine wpAny_bind (wpAny_holding ?_)
    have hv := hev E s F.keep
    rw [he] at hv ⊢
    refine Calls.evalArgs_plain (hv _ fun k k' => ?_)
    refine wpAny_bind (wpAny_standAt ?_)
    have hC : s.heap.get? C = some (excClassObj nm q C N' bs bm hdct sn sub ab col dd k0 k1 k2 k3 k5 "Exception.__new__") := F.keep _ _ (X _ _ ho)
    refine wpAny_bind (wpAny_keeperOf_exc hC ?_)
    refine wpAny_bind (wpAny_call (callX (s := { s with toks := k' }) F N (X.keeps F.keep) ho ht hi hf (by rw [sizeLine_eq]; simp) fun e t h' ne F' N' => codeAny_mono (h k k' e t h' ne F' N') fun r s' z => ?_))
    rcases r with e' | (v | _ | _ | _) <;> first | exact z.elim | skip
    obtain ⟨rfl, ⟨t, dx, h1, h3, h4⟩, -⟩ := z
    refine ⟨rfl, wpAny_bind (wpAny_holding (wpAny_point (wpAny_pure ⟨e, t, dx, bm, rfl, ?_, hbase, h1, h4⟩)))⟩
    exact h3 _ _ ho
  exact wpAny_bind (wpAny_standAt (raiseStmtX hh (wpAny_bind (wpAny_mono key (fun v s₃ h₃ => wpAny_bind (wpAny_standAt (wpAny_pure h₃))) fun _ _ x => x))))
end
section
variable {prog : Program} {w : World} {K : Frag} {p : Program} {loose : List Str} {mean : ExcName → Option Value} {mg mb : Str → Option Value} {CE : Addr}
  {A A₀ : Around} {base g0 h₀ h : Heap} {outer : List Env} {L a e t dx : Addr} {m : Str → Option Value} {news : List (Addr × Obj)} {cn : Str} {cs : Scope} {ccd : Value} {od : Obj} {s : Shared} {Q : Flow → Shared → Prop} {E : Value → Shared → Prop}

theorem makeFl (C : Cx K p loose mean mg mb A₀ base outer g0 h₀) (F : Fr h₀ L h m) (N : News h₀ L h ((dx, od) :: (e, excObj CE t dx) :: news)) (hm : Msg od) (ne : ∀ q ∈ news, q.1 ≠ e) (hde : dx ≠ e) (hk : cs.kind = .function) :
    Fl CE base h₀ outer news (envOf cn cs L a ccd :: outer) e h := by
  have K' := C.B.push (name := cn) (a := a) (cd := ccd) F hk
  have He := N (e, excObj CE t dx) (.tail _ (.head _))
  have Hd := N (dx, od) (.head _)
  have nfr : ∀ b, h₀.get? b = none → b ≠ L → b ∉ fr (envOf cn cs L a ccd :: outer) := fun b hb hL hmem => by
    rcases fr_mem rfl hmem with z | z
    · exact hL z
    · obtain ⟨_, o, ho, _⟩ := C.B.frames.mem z
      rw [ho] at hb
      cases hb
  have keepH : ∀ b o, h.get? b = some o → b ≠ e → b ∉ fr (envOf cn cs L a ccd :: outer) → (hideAll h (e :: fr (envOf cn cs L a ccd :: outer))).get? b = some o := fun b o hb h1 h2 =>
    hideAll_get _ hb (fun q => by
      rcases List.mem_cons.mp q with z | z
      · exact h1 z
      · exact h2 z)
  have e0 : base.get? e = none := fresh_of_stays C.B.stays He.2.2
  refine ⟨hideAll h (e :: fr (envOf cn cs L a ccd :: outer)), dx, od, ?_, ?_, hideAll_none _ (.head _), ?_, ?_, ?_, hm, ?_, ?_⟩
  · intro b o q
    refine keepH b o (K'.stays b o q) (fun z => by rw [z, e0] at q; cases q) fun hmem => ?_
    rw [(K'.frames.mem hmem).1] at q
    cases q
  · exact fun b o q => of_hideAll _ q
  · exact funFrames_hide K'.frames fun env he b hb => .tail _ (List.mem_filterMap.mpr ⟨env, he, hb⟩)
  · exact .inl ⟨_, _, ⟨He.1, rfl, rfl, rfl, by simp⟩, by simp⟩
  · exact keepH _ _ Hd.1 hde (nfr _ Hd.2.2 Hd.2.1)
  · intro b o hb nm
    refine keepH b o (F.keep b o hb) (fun z => by rw [z, He.2.2] at hb; cases hb) fun hmem => ?_
    rcases fr_mem rfl hmem with z | z
    · rw [z, kts_self F] at hb; cases hb
    · exact nm z
  · intro q hq
    have := N q (.tail _ (.tail _ hq))
    exact keepH _ _ this.1 (ne q hq) (nfr _ this.2.2 this.2.1)

/-- what the init of the refusal does -/
def InitOK (w : World) (K : Frag) (p : Program) (loose : List Str) (mean : ExcName → Option Value) (mg mb : Str → Option Value) (prog : Program) (CE fI : Addr) (base : Heap) : Prop :=
  ∀ (e t : Addr) (news : List (Addr × Obj)) (tk : Tok), (∀ q ∈ news, q.1 ≠ e) → SpecG prog w K p loose mean mg mb 1 base ((e, excBare CE t) :: news) fI [.ref e, .str "result is not exact" tk]
    (fun n v => v = .none ∧ ∃ dx od, Msg od ∧ n = (dx, od) :: (e, excObj CE t dx) :: news)

theorem raiseX {nm q : Str} {N' fI : Addr} {bs bm : List Value} {hdct : Bool} {sn : List Str} {sub : List Value} {ab : Bool} {col : Option Bool} {dd : Option Addr} {k0 k1 k2 k3 k5 : Option Value} {x : Str} {np cpos pos : Pos} {e₀ : PySem.Expr}
    (hA : A.frames = some (envOf cn cs L a ccd :: outer)) (hh : A.handled = none) {j : Nat} (r : Room A j) (er : Nat.ble 3 j = true)
    (C : Cx K p loose mean mg mb A₀ base outer g0 h₀) (F : Fr h₀ L s.heap m) (N : News h₀ L s.heap news)
    (exc : ∀ e h₁ h' tk', Cx K p loose mean mg mb A₀ base outer g0 h₁ → Fr h₁ L h' m → News h₁ L h' news → Fl CE base h₁ outer news (envOf cn cs L a ccd :: outer) e h' → E (.ref e) { s with heap := h', toks := tk' })
    (ex : nsIn K mainGlobals x = some (some (.ref CE)))
    (ho : K.lookup CE = some (excClassObj nm q CE N' bs bm hdct sn sub ab col dd k0 k1 k2 k3 k5 "Exception.__new__")) (ht : tailIn K excMro bm = true) (hbase : bm.contains (.type "BaseException") = true)
    (hi : findIn K (.ref CE) "__init__" = some (some (.ref fI))) (hf : typeIn K (.ref fI) = some (.type "function")) (I : InitOK w K p loose mean mg mb prog CE fI base)
    (hev : ∀ E s, (∀ b o, h₀.get? b = some o → s.heap.get? b = some o) → ∀ Q : List Value → Shared → Prop, (∀ tk tk', Q [.str "result is not exact" tk] { s with toks := tk' }) → wpAny (model prog w) A (spliced (backTo cpos (starEach [e₀] (envOf cn cs L a ccd)))) Q E s)
    (he : starEach [e₀] (envOf cn cs L a ccd) = [(false, eval e₀ (envOf cn cs L a ccd))])
    (hk : cs.kind = .function) (hx : (envOf cn cs L a ccd).kindOf x = some .globalImplicit) (hdb : (x == ("__debug__" : Str)) = false) :
    wpAny (model prog w) A (exec (.Raise (some (.Call (.Name x np) [e₀] [] cpos)) none pos) (envOf cn cs L a ccd)) Q E s := by
  refine raiseCallX (arg := fun tk => .str "result is not exact" tk) F N C.X (topRead_of C.T) hh ex ho ht hbase hi hf hev (fun tk _ e t h' ne F' N' => ?_) he hk hx hdb
  refine I e t news tk ne _ A₀ outer cn cs a L ccd g0 h₀ m _ _ hA hk hh ?_ ?_ C F' N' ?_
  · exact (by simp only [depth_under_make]; have := r.d er; omega)
  · exact (by simp only [units_under_make]; have := r.u er; omega)
  · rintro v h₁ news' h'' tk' C' F'' N'' ⟨rfl, dx, od, hm, rfl⟩
    have he2 := (N'' (e, excObj CE t dx) (.tail _ (.head _))).1
    refine ⟨rfl, ⟨t, dx, he2, C'.X.keeps F''.keep, exc e h₁ h'' tk' C' F'' (newsSub N'' (Sub.cons (Sub.cons Sub.refl))) (makeFl C' F'' N'' hm ne ?_ hk)⟩, rfl⟩
    intro z
    have h1 := (N'' (dx, od) (.head _)).1
    dsimp only at h1 he2
    rw [z, he2] at h1
    obtain ⟨_, _, _, rfl⟩ := hm
    cases h1

/-- where a dict stands that a frame can see -/
theorem caughtX {x n cn : Str} {np pos : Pos} {b₀ : Stmt} {suite : List Stmt} {rest : List ExceptHandler}
    (hA : A.frames = some (envOf cn cs L a ccd :: outer)) (C : Cx K p loose mean mg mb A₀ base outer g0 h₀) (F : Fr h₀ L s.heap m) (N : News h₀ L s.heap news)
    (fl : Fl CE base h₀ outer news (envOf cn cs L a ccd :: outer) e s.heap)
    (ex : nsIn K mainGlobals x = some (some (.ref CE))) (q : ktsIn K CE "BaseException" = true)
    (k : ∀ g' h' tk dx od oe news', Cx K p loose mean mg mb A₀ base outer g0 g' → Fr g' L h' (fun y => if y = n then some (.ref e) else m y) → News g' L h' news' → Sub news news' →
      oe.cls = .ref CE → oe.dict = some dx → notCls oe = true → Msg od → (e, oe) ∈ news' → (∀ h'' m', Fr g' L h'' m' → News g' L h'' news' → h''.get? dx = some od) →
      wpAny (model prog w) (A.mark (some (.ref e))) (execs (b₀ :: suite) (envOf cn cs L a ccd))
        (fun f s₄ => wpAny (model prog w) A (do bindName (envOf cn cs L a ccd) n .none; unbindBehindTheSuite (envOf cn cs L a ccd) n pos) (fun _ s₅ => Q f s₅) E s₄)
        (AsSuiteRaised (model prog w) (A.mark (some (.ref e))) (envOf cn cs L a ccd) n pos (notedBy (model prog w) (A.mark (some (.ref e))) (envOf cn cs L a ccd) (cameBackBy (model prog w) A (envOf cn cs L a ccd) E)))
        { s with heap := h', toks := tk })
    (hk : cs.kind = .function) (hlo : (envOf cn cs L a ccd).kindOf n = some .local) (hx : (envOf cn cs L a ccd).kindOf x = some .globalImplicit) (hdb : (x == ("__debug__" : Str)) = false) :
    wpAny (model prog w) A (noteFrame (.ref e) (envOf cn cs L a ccd))
      (fun _ s₂ => wpAny (model prog w) A (setFlight (.ref e) none) (fun _ s₃ =>
        wpAny (model prog w) A (handleBy (.ref e) (envOf cn cs L a ccd) (.ExceptHandler (some (.Name x np)) (some n) (b₀ :: suite) pos :: rest)) Q E s₃) E s₂) E s := by
  obtain ⟨B, dx, od, b1, b2, b3, b4, b5, b6, b7, b8, b9⟩ := fl
  refine noteX hA b4 rfl b2 b3 b5 fun h₁ ⟨x1, x2, x3, x4⟩ => ?_
  refine flightX x1 x2 x3 fun h₂ ⟨y1, y2, y3, y4⟩ => ?_
  have fresh : ∀ q ∈ news, q.1 ≠ L ∧ h₀.get? q.1 = none := fun q hq => (N q hq).2
  obtain ⟨g₅, T₅, C₅, F₅, N₅⟩ := reground C F fresh (fun b o e' nm => y1 _ _ (b8 b o e' nm)) (fun q hq => y1 _ _ (b9 q hq)) (x4.trans y4)
  obtain ⟨nm, q', N', bs, bm, hdct, sn, sub, ab, col, dd, k0, k1, k2, k3, k5, newId, hC, hbase, hbT⟩ := kts_cls C₅.X q
  have hC₅ := F₅.keep _ _ hC
  obtain ⟨oe, vs, -, -, -, hX, -⟩ := id y3
  refine wpAny_handleBy_cons (codeAny_handlers_test (name_K F₅ C₅.X (topRead_of C₅.T) ex ?_ hk hx hdb)) (by intro q; cases q)
  refine wpAny_excMatches_sub_self hC₅ hX.1 hX.2.1 hbase (codeAny_handlers_suite_as ?_)
  refine flightX y1 y2 y3 fun h₃ ⟨z1, z2, z3, z4⟩ => ?_
  obtain ⟨oe₃, vs₃, -, -, -, hX₃, -⟩ := id z3
  have outE : e ∉ fr (envOf cn cs L a ccd :: outer) := fun hm => by
    obtain ⟨_, o, ho, hn⟩ := z2.mem hm
    rw [hX₃.1] at ho
    cases ho
    exact hn _ hX₃.2.2.2.1
  have e0 : h₀.get? e = none := by
    cases hq : h₀.get? e with
    | none => rfl
    | some o =>
      have := b8 e o hq fun hm => outE (List.mem_filterMap.mpr (by
        obtain ⟨env, he, hb⟩ := List.mem_filterMap.mp hm
        exact ⟨env, .tail _ he, hb⟩))
      rw [b3] at this
      cases this
  have eL : e ≠ L := fun z => outE (List.mem_filterMap.mpr ⟨_, .head _, by rw [z]; rfl⟩)
  have outD : dx ∉ fr (envOf cn cs L a ccd :: outer) := fun hm => by
    rw [(b4.mem hm).1] at b6
    cases b6
  have dL : dx ≠ L := fun z => outD (List.mem_filterMap.mpr ⟨_, .head _, by rw [z]; rfl⟩)
  have up := (x4.trans y4).trans z4
  have keepB : ∀ b o, h₀.get? b = some o → b ∉ fr outer → h₃.get? b = some o := fun b o e' nm => z1 _ _ (b8 b o e' nm)
  have nk : ∀ q ∈ news, h₃.get? q.1 = some q.2 := fun q hq => z1 _ _ (b9 q hq)
  have nce : notCls oe₃ = true := by unfold notCls; rw [hX₃.2.2.2.1]
  cases hq : h₀.get? dx with
  | none =>
    obtain ⟨g₆, T₆, C₆, F₆, N₆⟩ := reground (h' := h₃) (news := (e, oe₃) :: (dx, od) :: news) C F (fun q hq' => by
      rcases List.mem_cons.mp hq' with rfl | hq'
      · exact ⟨eL, e0⟩
      · rcases List.mem_cons.mp hq' with rfl | hq'
        · exact ⟨dL, hq⟩
        · exact fresh q hq') keepB (fun q hq' => by
      rcases List.mem_cons.mp hq' with rfl | hq'
      · exact hX₃.1
      · rcases List.mem_cons.mp hq' with rfl | hq'
        · exact z1 _ _ b6
        · exact nk q hq') up
    refine stN F₆ N₆ (fun h₇ F₇ N₇ => ?_) hk hlo
    exact k g₆ h₇ _ dx od oe₃ _ C₆ F₇ N₇ (Sub.cons (Sub.cons Sub.refl)) hX₃.2.1 hX₃.2.2.1 nce b7 (.head _) fun h'' m' _ N' => (N' (dx, od) (.tail _ (.head _))).1
  | some o =>
    obtain ⟨g₆, T₆, C₆, F₆, N₆⟩ := reground (h' := h₃) (news := (e, oe₃) :: news) C F (fun q hq' => by
      rcases List.mem_cons.mp hq' with rfl | hq'
      · exact ⟨eL, e0⟩
      · exact fresh q hq') keepB (fun q hq' => by
      rcases List.mem_cons.mp hq' with rfl | hq'
      · exact hX₃.1
      · exact nk q hq') up
    have od' : g₆.get? dx = some od := by
      have nf : dx ∉ fr outer := fun hm => outD (List.mem_filterMap.mpr (by
        obtain ⟨env, he, hb⟩ := List.mem_filterMap.mp hm
        exact ⟨env, .tail _ he, hb⟩))
      have h1 := b8 dx o hq nf
      rw [b6] at h1
      cases h1
      exact T₆.other _ _ hq nf
    refine stN F₆ N₆ (fun h₇ F₇ N₇ => ?_) hk hlo
    exact k g₆ h₇ _ dx od oe₃ _ C₆ F₇ N₇ (Sub.cons Sub.refl) hX₃.2.1 hX₃.2.2.1 nce b7 (.head _) fun h'' m' F' _ => F'.keep _ _ od'
end
section
variable {prog : Program} {w : World} {A : Around} {K : Frag} {C x L : Addr} {ox od : Obj} {s : Shared} {name : Str} {expr : Bool} {Q : Value → Shared → Prop} {E : Value → Shared → Prop} {v : Value}
theorem getMsg (X : K.In s.heap) (I : W.InstAt s.heap x ox C (some od)) (hga : findIn K (.ref C) "__getattribute__" = some (some (.builtin "BaseException.__getattribute__"))) (hgn : findIn K (.ref C) "__getattr__" = some none)
    (hsub : mroIn K C (.type "BaseException") = some true) (hf : findObj K C (some od) name = some (.value v)) (hh : handedIn v = true) (h : Q v { s with toks := s.toks + 1 }) :
    wpAny (model prog w) A (getAttr (.ref x) name expr) Q E s := by
  obtain ⟨hp, g, d, t, os⟩ := s
  have FX := PySem.F.attr_Exception
  have L0 := I.type (M := model prog w)
  have L1 := looks_findIn (M := model prog w) X hga
  have L2 := looks_findIn (M := model prog w) X hgn
  have L3 := looks_find (M := model prog w) X I hf
  have f3 := FX.ga.bind (.ref x)
  have hx0 : ∀ e : Bool, (e && onTheHeap (Value.builtin "BaseException.__getattribute__")) = false := fun e => by cases e <;> rfl
  unfold getAttr getAttrBy
  refine wpAny_bind (wpAny_mkText (wpAny_holding (wpAny_bind (L0.at (wpAny_bind (L1.at ?_))))))
  dsimp only
  rw [if_neg (by show ¬ ((true && (Value.builtin "BaseException.__getattribute__" == Value.builtin "object.__getattribute__")) = true); decide +kernel)]
  unfold getAttrByItsOwn
  refine wpAny_bind (L2.at ?_)
  unfold callGetattribute boundAndCalled
  rw [hx0, if_neg (by decide), f3]
  refine wpAny_bind (wpAny_attempt (wpAny_holding ?_))
  refine wpAny_bind (wpAny_pure ?_)
  show wpAny _ _ (call (.builtin "BaseException.__getattribute__") [.ref x, .str name t]) _ _ _
  refine wpAny_call (codeAny_call_builtin FX.ga.plain PySem.F.entry_bexc_ga ?_)
  have hk : builtinKind "BaseException.__getattribute__" = some .slot := by decide +kernel
  have hsplit : splitId "BaseException.__getattribute__" = some ("BaseException", "__getattribute__") := by decide +kernel
  have sub : Looks (model prog w) hp (isInstance (.ref x) (.type "BaseException")) true := L0.andThen (looks_mroIn X hsub)
  refine @check_slot (model prog w) _ _ _ "BaseException.__getattribute__" "BaseException" "__getattribute__" (.ref x) [.str name t] [] _ hk hsplit sub (PySem.F.args_bexc_ga _ _) ?_
  refine wpAny_bind (wpAny_pure (wpAny_bind (wpAny_pure (wpAny_bind (L0.at (wpAny_bind (L3.at ?_)))))))
  refine wpAny_pure ?_
  show wpAny _ _ (handedOut v) _ _ _
  rw [handedOut_of hh]; exact wpAny_pure h

theorem setExc {t : Addr} {h₀ : Heap} {m : Str → Option Value} {post : List (Addr × Obj)} {cd : ClassData} {c2 : Addr} {Q : Unit → Shared → Prop} (F : Fr h₀ L s.heap m) (X₀ : K.In h₀) (N : News h₀ L s.heap ((x, excBare C t) :: post))
    (hs : findIn K (.ref C) "__setattr__" = some (some (.builtin "object.__setattr__"))) (hc : clsIn K C = some cd) (hm : cd.mro = [.ref C, .ref c2, .type "Exception", .type "BaseException", .type "object"]) (hh : cd.hasDict = true)
    (ht : takerIn K C name = some none) (h2 : ∀ p ∈ post, p.1 ≠ x)
    (h : ∀ dx h' tk tk', Fr h₀ L h' m → News h₀ L h' ((dx, dictOf [⟨PyData.keyHash w.params name, .str name tk, v⟩] 1) :: (x, excObj C t dx) :: post) → Q () { s with heap := h', toks := tk' }) :
    wpAny (model prog w) A (setAttr (.ref x) name v) Q E s := by
  have I : W.InstAt s.heap x (excBare C t) C none := ⟨(N _ (.head _)).1, rfl, rfl, trivial⟩
  refine set_plain (X₀.keeps F.keep) I hs ?_
  exact osa_exc (s := { s with toks := s.toks + 1 }) (pre := []) F N (X₀.keeps F.keep) hc hm hh ht (fun _ h => nomatch h) h2 fun dx h' F' N' => h dx h' _ _ F' N'

theorem getMsgX {p : Program} {loose : List Str} {mean : ExcName → Option Value} {mg mb : Str → Option Value} {A₀ : Around} {base g0 h₀ : Heap} {outer : List Env} {news : List (Addr × Obj)} {m : Str → Option Value} {dx : Addr} {attr : Option Value}
    (Cx' : Cx K p loose mean mg mb A₀ base outer g0 h₀) (F : Fr h₀ L s.heap m) (N : News h₀ L s.heap news) (me : (x, ox) ∈ news) (oc : ox.cls = .ref C) (od2 : ox.dict = some dx) (nc : notCls ox = true) (ms : Msg od)
    (dxat : ∀ h'' m', Fr h₀ L h'' m' → News h₀ L h'' news → h''.get? dx = some od) (hga : findIn K (.ref C) "__getattribute__" = some (some (.builtin "BaseException.__getattribute__"))) (hgn : findIn K (.ref C) "__getattr__" = some none)
    (hsub : mroIn K C (.type "BaseException") = some true) (hd : hasDictIn K C = true) (ha : findIn K (.ref C) "message" = some attr) (hn : noGet K attr = true) (h : ∀ tk, Q (.str "result is not exact" tk) { s with toks := s.toks + 1 }) :
    wpAny (model prog w) A (getAttr (.ref x) "message" expr) Q E s := by
  obtain ⟨hsh, tk, tk', rfl⟩ := ms
  have I : W.InstAt s.heap x ox C (some (dictOf [⟨hsh, .str "message" tk, .str "result is not exact" tk'⟩] 1)) := ⟨(N _ me).1, oc, nc, by rw [od2]; exact dxat _ _ F N⟩
  exact getMsg (Cx'.X.keeps F.keep) I hga hgn hsub (findObj_own hd ha hn (by rfl)) rfl (h tk')
end
end
section
/-- a map that is l off the names vars -/
def Mixed (vars : List Str) (l : List (Str × Value)) (m : Str → Option Value) : Prop := ∀ y, vars.contains y = false → m y = mapOf l y
def mix (vars : List Str) (m : Str → Option Value) (l : List (Str × Value)) : Str → Option Value := fun y => if vars.contains y = true then m y else mapOf l y
theorem Mixed.eq {vars : List Str} {l : List (Str × Value)} {m : Str → Option Value} (h : Mixed vars l m) : m = mix vars m l := by
  funext y
  unfold mix
  cases q : vars.contains y with
  | true => rfl
  | false => exact h y q
theorem Mixed.of {vars : List Str} {l : List (Str × Value)} : Mixed vars l (mapOf l) := fun _ _ => rfl
theorem Mixed.mix {vars : List Str} {l : List (Str × Value)} {m : Str → Option Value} : Mixed vars l (mix vars m l) := fun y q => by
  unfold Mine.mix; rw [q]; rfl
theorem Mixed.step {vars : List Str} {l : List (Str × Value)} {m : Str → Option Value} {k : Str} {v : Option Value} (hk : vars.contains k = true) (h : Mixed vars l m) : Mixed vars l (fun y => if y = k then v else m y) := fun y q => by
  dsimp only
  rw [if_neg (fun e => by rw [e, hk] at q; cases q)]
  exact h y q

section
variable {prog : Program} {w : World} {A : Around} {E : Value → Shared → Prop} {s : Shared} {env : Env} {Q : Flow → Shared → Prop}
def LoopCx (prog : Program) (w : World) (A : Around) (env : Env) (x : Str) (px : Pos) (body : List Stmt) (Q : Flow → Shared → Prop) (E : Value → Shared → Prop) (it : Value) (s₂ : Shared) : Prop :=
  codeAny (model prog w) A (.forLoop (.Name x px) it body [] env) (fun r s' => match r with | .ok f => Q f s' | .error e => cameBackBy (model prog w) A env E e s') s₂
theorem forCx {x : Str} {px pos : Pos} {iter : PySem.Expr} {body : List Stmt} (h : wpAny (model prog w) A (eval iter env) (fun xv s₁ => wpAny (model prog w) A (pyIter xv) (fun it s₂ => LoopCx prog w A env x px body Q E it s₂) E s₁) E s)
    (hs : ∀ x, foldedSetIterable iter env x = pure x := by intro _; rfl) : wpAny (model prog w) A (exec (.For (.Name x px) iter body [] pos) env) Q E s := wpAny_For h hs
end

section
variable {prog : Program} {w : World} {K : Frag} {p : Program} {loose : List Str} {mean : ExcName → Option Value} {mg mb : Str → Option Value} {A A₀ : Around} {E : Value → Shared → Prop} {s : Shared} {base g0 h₀ : Heap} {outer : List Env} {L a : Addr} {news : List (Addr × Obj)} {cn : Str} {cs : Scope} {ccd : Value} {Q : Flow → Shared → Prop}
theorem loopList {x : Str} {px : Pos} {body : List Stmt} {D : Addr} {vs : List Value} {nn : Nat} (vars : List Str) (l : List (Str × Value)) (J : Nat → List (Addr × Obj) → Prop)
    (hh : A.handled = none) (C : Cx K p loose mean mg mb A₀ base outer g0 h₀) {m₀ : Str → Option Value} (F : Fr h₀ L s.heap m₀) (N : News h₀ L s.heap ((D, listOf vs.toArray nn) :: news)) (hm : Mixed vars l m₀) (hj : J 0 news) (hx : vars.contains x = true)
    (hne : ∀ q ∈ news, q.1 ≠ D)
    (turn : ∀ i v g h tk m news' I oI, vs[i]? = some v → Cx K p loose mean mg mb A₀ base outer g0 g → Fr g L h (fun y => if y = x then some v else mix vars m l y) → News g L h (news' ++ [(I, oI), (D, listOf vs.toArray nn)]) → J i news' → (∀ q ∈ news', q.1 ≠ D ∧ q.1 ≠ I) → I ≠ D →
      ∀ G : Flow → Shared → Prop, (∀ g' h' tk' m' n₁, Cx K p loose mean mg mb A₀ base outer g0 g' → Fr g' L h' m' → News g' L h' (n₁ ++ [(I, oI), (D, listOf vs.toArray nn)]) → Mixed vars l m' → J (i + 1) n₁ → (∀ q ∈ n₁, q.1 ≠ D ∧ q.1 ≠ I) → G .next { s with heap := h', toks := tk' }) → (∀ v s', Q (.ret v) s' → G (.ret v) s') →
      wpAny (model prog w) A (execs body (envOf cn cs L a ccd)) G (fun _ _ => False) { s with heap := h, toks := tk })
    (done : ∀ g h tk m n₁, Cx K p loose mean mg mb A₀ base outer g0 g → Fr g L h (mix vars m l) → News g L h n₁ → J vs.length n₁ → Q .next { s with heap := h, toks := tk })
    (hk : cs.kind = .function) (hlo : (envOf cn cs L a ccd).kindOf x = some .local) :
    wpAny (model prog w) A (pyIter (.ref D)) (fun it s₂ => LoopCx prog w A (envOf cn cs L a ccd) x px body Q E it s₂) E s := by
  have hD := (N _ (.head _))
  have hls : s.heap.IsList D vs.toArray := ⟨_, hD.1, rfl, nn, rfl⟩
  have hneD : D ≠ s.heap.objs.size := Nat.ne_of_lt (Heap.lt_size hD.1)
  refine wpAny_pyIter_list hls ?_
  have W := Walks.list (prog := prog) (w := w) hh s.heap.objs.size D hneD vs.toArray
  unfold LoopCx
  generalize hI : s.heap.objs.size = I at W hneD ⊢
  refine codeAny_forLoop_any (fun k s' => ∃ i g h tk m n₁ oI, s' = { s with heap := h, toks := tk } ∧ i ≤ vs.length ∧ k = vs.length - i ∧ Cx K p loose mean mg mb A₀ base outer g0 g ∧ Fr g L h m ∧ News g L h (n₁ ++ [(I, oI), (D, listOf vs.toArray nn)]) ∧ Mixed vars l m ∧ J i n₁ ∧ (∀ q ∈ n₁, q.1 ≠ D ∧ q.1 ≠ I) ∧ (h.IsListIter I D i ∧ h.IsList D vs.toArray)) ?_ (vs.length) ?_
  · rintro k s' ⟨i, g, h, tk, m, n₁, oI, rfl, hi, rfl, C₁, F₁, N₁, hm₁, hj₁, ne₁, st⟩
    have NI := N₁ (I, oI) (by simp)
    have ND := N₁ (D, listOf vs.toArray nn) (by simp)
    by_cases hlt : i < vs.length
    · refine W.item i _ _ _ (by simpa using hlt) st fun v h₂ tk₂ hv st₂ hk₂ => ?_
      obtain ⟨oI₂, hoI, _⟩ := id st₂.1
      have F₂ : Fr g L h₂ m := ⟨F₁.ns.at' fun o e => hk₂ _ o (by simp; exact fun z => NI.2.1 z.symm) e, fun b o e => hk₂ b o (by
        simp
        intro z
        have := NI.2.2
        dsimp only at this
        rw [← z, e] at this
        cases this) (F₁.keep b o e), F₁.above⟩
      have N₂ : News g L h₂ (n₁ ++ [(I, oI₂), (D, listOf vs.toArray nn)]) := fun q hq => by
        rcases List.mem_append.mp hq with hq | hq
        · exact ⟨hk₂ _ _ (by simp; exact (ne₁ q hq).2) (N₁ q (List.mem_append_left _ hq)).1, (N₁ q (List.mem_append_left _ hq)).2⟩
        · rcases List.mem_cons.mp hq with rfl | hq
          · exact ⟨hoI, NI.2⟩
          · rw [List.mem_singleton.mp hq]
            exact ⟨hk₂ _ _ (by simp; exact hneD) ND.1, ND.2⟩
      show wpAny (model prog w) A (letOwnedTupleGo (.Name x px) (.ref I) v) _ _ _
      refine wpAny_pure ?_
      refine wpAny_assign_Name ?_
      refine stN F₂ N₂ (fun h₃ F₃ N₃ => ?_) hk hlo
      rw [hm₁.eq] at F₃
      refine wpAny_mono (turn i v g h₃ _ m n₁ I oI₂ (by simpa using hv) C₁ F₃ N₃ hj₁ ne₁ hneD.symm _ ?_ ?_) (fun _ _ x => x) (fun _ _ x => x.elim)
      · intro g' h' tk' m' n₂ C' F' N' hm' hj' ne'
        refine ⟨vs.length - (i + 1), by omega, i + 1, g', h', tk', m', n₂, oI₂, rfl, hlt, rfl, C', F', N', hm', hj', ne', ?_⟩
        refine ⟨st₂.1.at fun o e => ?_, st₂.2.at fun o e => ?_⟩
        · rw [hoI] at e
          cases e
          exact (N' (I, oI₂) (by simp)).1
        · have := (N₂ (D, listOf vs.toArray nn) (by simp)).1
          dsimp only at this
          rw [this] at e
          cases e
          exact (N' (D, listOf vs.toArray nn) (by simp)).1
      · intro v s' hq
        exact hq
    · obtain rfl : i = vs.length := by omega
      refine W.done _ _ _ (by simpa using st) fun h₂ tk₂ hk₂ => wpAny_execs_nil ?_
      have F₂ : Fr g L h₂ m := ⟨F₁.ns.at' fun o e => hk₂ _ o (by simp; exact fun z => NI.2.1 z.symm) e, fun b o e => hk₂ b o (by
        simp
        intro z
        have := NI.2.2
        dsimp only at this
        rw [← z, e] at this
        cases this) (F₁.keep b o e), F₁.above⟩
      rw [hm₁.eq] at F₂
      exact done g h₂ tk₂ m n₁ C₁ F₂ (fun q hq => ⟨hk₂ _ _ (by simp; exact (ne₁ q hq).2) (N₁ q (List.mem_append_left _ hq)).1, (N₁ q (List.mem_append_left _ hq)).2⟩) hj₁
  · have F1 := F.push { cls := .type "list_iterator", data := .fields #[.ref D, .int 0 0] }
    have N1 := N.push F { cls := .type "list_iterator", data := .fields #[.ref D, .int 0 0] }
    rw [hI] at N1
    refine ⟨0, h₀, _, s.toks, m₀, news, { cls := .type "list_iterator", data := .fields #[.ref D, .int 0 0] }, rfl, Nat.zero_le _, rfl, C, F1, ?_, hm, hj, ?_, ?_, ?_⟩
    · intro q hq
      refine N1 q ?_
      rcases List.mem_append.mp hq with hq | hq
      · exact .tail _ (.tail _ hq)
      · rcases List.mem_cons.mp hq with rfl | hq
        · exact .head _
        · rw [List.mem_singleton.mp hq]; exact .tail _ (.head _)
    · intro q hq
      refine ⟨hne q hq, fun z => ?_⟩
      have := Heap.lt_size (N q (.tail _ hq)).1
      rw [z, ← hI] at this
      exact absurd this (Nat.lt_irrefl _)
    · rw [← hI]
      exact ⟨_, Heap.get?_push_size _ rfl, rfl, rfl⟩
    · exact hls.at fun o e => Heap.get?_push_of_some _ e
end
end
noncomputable def vw : Program := { PySem.Challenge.pw_ov0047_01 with main := { PySem.Challenge.pw_ov0047_01.main with body := ((PySem.Challenge.pw_ov0047_01.main.body.eraseIdx 22).eraseIdx 3).eraseIdx 0 } }
theorem ws : OpenLaw.wellSaid PySem.Challenge.rw_ov0047_01 = true := by
  unfold OpenLaw.wellSaid OpenRow.wellSaid OpenRow.partSaid looksOpen
  repeat' with_reducible refine look_both ?_ ?_
  all_goals decide +kernel
noncomputable def LQ (p q : Program) (loose : List Str) (Xt : Shared → Bool) {α : Type} (Yf : Shared → α) (Ya : World → α) (N : Nat) (g0 : Bool) : {P : Prop // P → LeftO p q loose Xt Yf Ya N g0} :=
  ⟨∀ w, _, fun h w => by
    unfold openEnds fencedOpening topFrom
    rw [PySem.W.Fast.te10274390034422433532, PySem.W.Fast.te14364793385576792824, PySem.W.Fast.te1435165496053646825, PySem.W.Fast.te14289696077712309145, PySem.W.Fast.te14082659384304107361, PySem.W.Fast.te4187177175401517315, PySem.W.Fast.te5923862056798008813]
    exact h w⟩
local macro_rules | `(tactic| o_law) => `(tactic| refine holds_law ws fun said => ?_)
local macro_rules | `(tactic| k_qdec) => `(tactic| kernel_rfl)
local macro_rules | `(tactic| o_head $H) => `(tactic| (
  refine holds_open (q := vw) (loose := []) (Xt := fun s => xlAt vw [] s && recOk (RowW.records (OpenRow.toRowW (OpenLaw.row PySem.Challenge.rw_ov0047_01))) s) (XP := XL vw []) (Yf := Hook.obs $H) (Ya := Hook.val $H) (YP := Hook.says $H) (N := 2798) ?hl (Hook.of $H) (Hook.keeps $H) (fun s e => xl_of s (Bool.and_eq_true_iff.mp e).1) XL.keeps (by rfl) (by rfl) (by rfl) (fun s e => recFacts_of (Bool.and_eq_true_iff.mp e).2) (by rfl) (by first | assumption | decide +kernel) (by decide +kernel) ⟨rfl, rfl, rfl, rfl, rfl, by decide +kernel⟩ ?hw ?hc;
  (case hl => (refine (LQ _ _ _ _ _ _ _ _).2 ?_; intro w; kernel_rfl))))
set_option maxRecDepth 100000 in
set_option maxHeartbeats 8000000 in
open_top hd for PySem.Challenge.rw_ov0047_01
theorem warm : True ∨ PySem.Challenge.rw_ov0047_01.Holds := by
  first
  | (refine Or.inr (Mine.hd ?_); k_fill; fail "the written part is kept now")
  | exact Or.inl trivial
section
variable {w : World} {p : Program} {loose : List Str} {mean : ExcName → Option Value} {mg mb : Str → Option Value} {base : Heap} {l news : List (Addr × Obj)} {D : Addr} {a b : Int}
theorem FA_NAN (X : (hd.heap_1 w.params).In base) : FA base l 47 0 0 := FA.of_K X (by k_dflt k_is)
theorem FA_INF (X : (hd.heap_1 w.params).In base) : FA base l 48 1 0 := FA.of_K X (by k_dflt k_is)
theorem FA_ZERO (X : (hd.heap_1 w.params).In base) : FA base l 49 0 1 := FA.of_K X (by k_dflt k_is)
theorem FA_ONE (X : (hd.heap_1 w.params).In base) : FA base l 50 1 1 := FA.of_K X (by k_dflt k_is)
abbrev SpecW (w : World) (p : Program) (loose : List Str) (mean : ExcName → Option Value) (mg mb : Str → Option Value) (k : Nat) (base : Heap) (news : List (Addr × Obj))
    (f : Addr) (vs : List Value) (OK : List (Addr × Obj) → Value → Prop) (ER : Prop) : Prop := Spec PySem.Challenge.pw_ov0047_01 w (hd.heap_1 w.params) p loose mean mg mb 44 k base news f vs OK ER

end
local macro_rules | `(tactic| walk_at "m_fcn") => `(tactic| ((case F => with_reducible assumption); (case C => with_reducible assumption); (case N => with_reducible assumption)))
local macro_rules | `(tactic| walk_at "m_du") => `(tactic| ((case hr => with_reducible assumption); (case he => exact rfl)))
local macro_rules | `(tactic| walk_at "m_xy") => `(tactic| (walk_at "m_fcn"; (case x => walk_at "m_fa"); (case y => walk_at "m_fa"); (case h => walk_at "m_sub"); (case h1 => walk_at "m_sub"); (case u => exact Room.u64 (by with_reducible assumption))))
local macro_rules | `(tactic| walk_at "m_xh") => `(tactic| (walk_at "m_fcn"; (case x => walk_at "m_fa"); (case h => walk_at "m_sub")))
local macro_rules | `(tactic| walk_at "m_sub") => `(tactic| first | exact Sub.refl | with_reducible assumption | exact Sub.nil | (refine Sub.cons ?_; walk_at "m_sub") | (refine Sub.trans ?_ (by with_reducible assumption); walk_at "m_sub"))
local macro_rules | `(tactic| walk_at "m_fa") => `(tactic| first | with_reducible assumption | exact FA_NAN (l := []) (Cx.XB (by with_reducible assumption)) | exact FA_INF (l := []) (Cx.XB (by with_reducible assumption)) | exact FA_ZERO (l := []) (Cx.XB (by with_reducible assumption)) | exact FA_ONE (l := []) (Cx.XB (by with_reducible assumption)) | exact FA_NAN (Cx.XB (by with_reducible assumption)) | exact FA_INF (Cx.XB (by with_reducible assumption)) | exact FA_ZERO (Cx.XB (by with_reducible assumption)) | exact FA_ONE (Cx.XB (by with_reducible assumption)))
local macro_rules | `(tactic| walk_at "m_fam") => `(tactic| (refine' FA.mono ?x ?h; (case x => walk_at "m_fa"); (case h => walk_at "m_sub")))
local macro_rules | `(tactic| walk_at "subscriptTail Name Constant ref int") => `(tactic| (first
  | ((with_reducible show wpAny _ _ (subscriptTail _ _ (Value.ref _) (Value.int 0 _)) _ _ _); k_dflt (refine' item0 ?C ?F ?N ?x ?h ?_ ?e; walk_at "m_fcn"; (case x => walk_at "m_fa"); (case h => walk_at "m_sub"); (case e => with_unfolding_all rfl)); intro t')
  | ((with_reducible show wpAny _ _ (subscriptTail _ _ (Value.ref _) (Value.int 1 _)) _ _ _); k_dflt (refine' item1 ?C ?F ?N ?x ?h ?_ ?e; walk_at "m_fcn"; (case x => walk_at "m_fa"); (case h => walk_at "m_sub"); (case e => with_unfolding_all rfl)); intro t')))
local macro_rules | `(tactic| walk_at "compareOp Eq ref ref") => `(tactic| (k_dflt (refine' eqFA ?C ?F ?N ?x ?y ?h ?h1 ?u ?_; walk_at "m_xy")))
local macro_rules | `(tactic| walk_at "compareOp NotEq ref ref") => `(tactic| (k_dflt (refine' neFA ?C ?F ?N ?x ?y ?h ?h1 ?u ?_; walk_at "m_xy")))
local macro_rules | `(tactic| walk_at "compareOp Eq none ref") => `(tactic| (k_dflt (refine' eqNone ?C ?F ?N ?x ?h ?u ?_; walk_at "m_fcn"; (case x => walk_at "m_fa"); (case h => walk_at "m_sub"); (case u => exact Room.u64 (by with_reducible assumption)))))
local macro_rules | `(tactic| walk_at "newTuple") => `(tactic| (k_dflt (refine' newPair ?C ?F ?N ?_; walk_at "m_fcn"); intro D' news' h' sub' F' N' fa'; (try dsimp only)))
local macro_rules | `(tactic| walk_at "unpackItems ref") => `(tactic| (k_dflt (refine' unpackFA ?C ?F ?N ?x ?h ?hh ?hn ?_; walk_at "m_fcn"; (case x => walk_at "m_fa"); (case h => walk_at "m_sub"); (case hh => with_reducible assumption); (case hn => exact rfl)); intro t' t'' h' F' N'; (try dsimp only)))
local macro_rules | `(tactic| walk_at "m_steps") => `(tactic| repeat' (first | (k_unfold; (try dsimp only)) | walk1 | (dsimp only; walk1) | (leave1; try dsimp only)))
local macro_rules | `(tactic| walk_at "m_ret") => `(tactic| ((try dsimp only); k_dflt (refine' $(Lean.mkIdent `ret):ident _ _ _ _ _ _ ?h ?C ?F ?N ?_; walk_at "m_fcn"; (case h => walk_at "m_sub")); clear $(Lean.mkIdent `ret):ident))
local macro_rules | `(tactic| walk_at "m_enter") => `(tactic| ((case hrb => exact rfl); (case ho => k_dflt k_is); (case hcd => k_dflt k_is); (case hbind => (intro s; exact BindsTo.of_eq rfl)); (case hloc => exact locs rfl); (case hco => exact rfl); (case hgen => exact rfl); (case hk => exact rfl); (case hcell => decide); intro $(Lean.mkIdent `A) $(Lean.mkIdent `A₀) $(Lean.mkIdent `outer) $(Lean.mkIdent `g) $(Lean.mkIdent `h₁) $(Lean.mkIdent `L) $(Lean.mkIdent `s) $(Lean.mkIdent `P) $(Lean.mkIdent `hA) $(Lean.mkIdent `hh) $(Lean.mkIdent `hd) $(Lean.mkIdent `hu) $(Lean.mkIdent `C) $(Lean.mkIdent `KX) $(Lean.mkIdent `T) $(Lean.mkIdent `F) $(Lean.mkIdent `N) $(Lean.mkIdent `ret); have rm' := Room.mk $(Lean.mkIdent `hd) $(Lean.mkIdent `hu)))
local macro_rules | `(tactic| walk_at "m_fin") => `(tactic| (first | rfl | (simp only [Value.bool.injEq]; grind) | grind | (simp_all; done)))
local macro_rules | `(tactic| walk_at "m_use") => `(tactic| (walk_at "m_fcn"; (case hA => with_reducible assumption); (case hck => exact rfl); (case hh => with_reducible assumption); walk_at "m_du"))
local macro_rules | `(tactic| walk_at "m_norm") => `(tactic| first | exact rfl | (refine' map_cons ?mh; (case mh => walk_at "m_norm")))
local macro_rules | `(tactic| walk_at "m_each") => `(tactic| first | exact List.forall_mem_nil _ | (refine' List.forall_mem_cons.mpr ⟨?mr, ?mt⟩; (case mr => exact rfl); (case mt => walk_at "m_each")))
local macro_rules | `(tactic| walk_at "m_map") => `(tactic| (refine' Eq.trans ?mn (map_ext ?ma ?mb); (case mn => walk_at "m_norm"); (case ma => walk_at "m_each"); (case mb => walk_at "m_each")))
local macro_rules | `(tactic| walk_at "m_turn") => `(tactic| ((case F => with_reducible assumption); (case e => (try dsimp only); walk_at "m_map"); (case N => (refine newsSub (by with_reducible assumption) ?_; walk_at "m_sub")); clear $(Lean.mkIdent `hG):ident))
local macro_rules | `(tactic| walk_at "m_ar") => `(tactic| first | with_reducible assumption | exact Int.natCast_nonneg _ | exact Int.le_of_lt (by with_reducible assumption) | decide | omega | k_extra "ar")
local macro_rules | `(tactic| walk_at "binaryOp FloorDiv int int") => `(tactic| (k_dflt (refine' rFloor ?b ?p ?_; (case b => walk_at "m_ar"); (case p => walk_at "m_ar")); intro t'; (try dsimp only)))
local macro_rules | `(tactic| walk_at "binaryOp Mult int int") => `(tactic| (k_dflt (refine' rMul ?p ?q ?_; (case p => walk_at "m_ar"); (case q => walk_at "m_ar")); intro t'; (try dsimp only)))
local macro_rules | `(tactic| walk_at "binaryOp Pow int int") => `(tactic| (k_dflt (refine' rPow ?b ?c ?p ?_; (case b => walk_at "m_ar"); (case c => walk_at "m_ar"); (case p => walk_at "m_ar")); intro t'; (try dsimp only)))
local macro_rules | `(tactic| walk_at "call builtin:abs") => `(tactic| (k_dflt (refine' rAbs ?_); intro t' tk'; (try dsimp only)))
local macro_rules | `(tactic| walk_at "m_got") => `(tactic| (intro v' h' news' g' tk' sub' C' F' N' ok'; (have X' := Cx.X C'); (have T' := Cx.T C'); (try dsimp only at ok'); (first | (rcases ok' with ⟨t1', e1'⟩; subst e1') | (rcases ok' with ⟨D1', e1', f1'⟩; subst e1') | (rcases ok' with ⟨r1', D1', o1', e1', f1'⟩; subst e1') | subst ok' | skip); (try dsimp only)))
local macro_rules | `(tactic| walk_at "m_used") => `(tactic| (walk_at "m_use"; (case exc => exact False.elim)))
local macro_rules | `(tactic| walk_at "m_exc") => `(tactic| ((try dsimp only); k_dflt (refine' $(Lean.mkIdent `exc):ident ?er _ _ _ _ _ _ ?h ?C ?F ?N ?fl; walk_at "m_fcn"; (case fl => with_reducible assumption); (case h => walk_at "m_sub")); clear $(Lean.mkIdent `exc):ident))
local macro_rules | `(tactic| walk_at "eval Call") => `(tactic| k_dflt (refine Call_ ?_))
local macro_rules | `(tactic| walk_at "m_turn1") => `(tactic| ((case F1 => with_reducible assumption); (case e1 => (try dsimp only); walk_at "m_map"); (case N1 => (refine newsSub (by with_reducible assumption) ?_; walk_at "m_sub")); clear $(Lean.mkIdent `hG):ident))
local macro_rules | `(tactic| walk_at "m_turn2") => `(tactic| ((case F2 => with_reducible assumption); (case e2 => (try dsimp only); walk_at "m_map"); (case N2 => (refine newsSub (by with_reducible assumption) ?_; walk_at "m_sub")); clear $(Lean.mkIdent `hG):ident))
local macro_rules | `(tactic| walk_at "m_usedE") => `(tactic| (rotate_left; (intro er' e' h1' h' tk' C' F' N' fl'; (try dsimp only)); rotate_right))
local macro_rules | `(tactic| walk_at "setItem ref int") => `(tactic| (k_dflt (refine' ki_set ?F ?N ?a ?b ?e ?U ?_; (case F => with_reducible assumption); (case N => with_reducible assumption); (case U => exact Upd.head (by with_reducible assumption)); (case a => decide); (case b => decide); (case e => rfl)); intro h' F' N'; (try dsimp only [List.nil_append, List.cons_append] at N')))
local macro_rules | `(tactic| walk_at "exec For Name List cons nil") => `(tactic| (k_dflt (refine' forCx ?_ ?hs; (case hs => (intro _; rfl)))))
local macro_rules | `(tactic| walk_at "exec For Name Subscript cons nil") => `(tactic| (k_dflt (refine' forCx ?_ ?hs; (case hs => (intro _; rfl)))))
local macro_rules | `(tactic| walk_at "binaryOp Mod int int") => `(tactic| (k_dflt (refine' rMod ?b ?_; (case b => walk_at "m_ar")); intro t'; (try dsimp only)))
local macro_rules | `(tactic| walk_at "noteFrame ref") => `(tactic| (k_dflt (refine' caughtX (CE := 44) ?hA ?C ?F ?N ?fl ?ex ?q ?_ ?hk ?hlo ?hx ?hdb; walk_at "m_fcn"; (case fl => with_reducible assumption); (case hA => with_reducible assumption); (case ex => k_dflt k_is); (case q => kts_isx); (case hk => exact rfl); (case hlo => exact rfl); (case hx => exact rfl); (case hdb => decide)); intro g' h' tk' dx' od' oe' news' C' F' N' sub' xc' xd' xn' xm' xi' xa'; (have X' := Cx.X C'); (have T' := Cx.T C'); (try dsimp only)))
local macro_rules | `(tactic| walk_at "getAttr ref") => `(tactic| (k_dflt (refine' getMsgX (C := 44) ?C ?F ?N ?me ?oc ?od ?nc ?ms ?dx ?hga ?hgn ?hsub ?hd ?ha ?hn ?_; walk_at "m_fcn"; (case me => with_reducible assumption); (case oc => with_reducible assumption); (case od => with_reducible assumption); (case nc => with_reducible assumption); (case ms => with_reducible assumption); (case dx => with_reducible assumption); (case hga => k_dflt k_is); (case hgn => k_dflt k_is); (case hsub => k_dflt k_is); (case hd => k_dflt k_is); (case ha => k_dflt k_is); (case hn => k_dflt k_is)); intro tk'; (try dsimp only)))
section
variable {w : World} {p : Program} {loose : List Str} {mean : ExcName → Option Value} {mg mb : Str → Option Value} {base : Heap} {l news : List (Addr × Obj)} {D : Addr} {a b : Int}
theorem is_na_some (hD : FA base news D a b) : SpecW w p loose mean mg mb 5 base news 71 [.ref D] (fun _ v => v = .bool (decide (a = 0 ∧ b = 0))) False := by
  refine' enterN [("x", .ref D)] [("x", .ref D)] ?hrb ?ho ?hcd ?hbind ?hloc ?hco ?hgen ?hk ?hcell ?_
  walk_at "m_enter"
  walk_at "m_steps"
  all_goals walk_at "m_ret"
  all_goals walk_at "m_fin"

theorem is_na_none : SpecW w p loose mean mg mb 5 base news 71 [.none] (fun _ v => v = .bool true) False := by
  refine' enterN [("x", .none)] [("x", .none)] ?hrb ?ho ?hcd ?hbind ?hloc ?hco ?hgen ?hk ?hcell ?_
  walk_at "m_enter"
  walk_at "m_steps"
  all_goals walk_at "m_ret"
  all_goals walk_at "m_fin"

theorem neg_some (hD : FA base news D a b) : SpecW w p loose mean mg mb 5 base news 85 [.ref D] (fun n v => ∃ D', v = .ref D' ∧ FA base n D' (0 - a) b) False := by
  refine' enterN [("x", .ref D)] [("x", .ref D)] ?hrb ?ho ?hcd ?hbind ?hloc ?hco ?hgen ?hk ?hcell ?_
  walk_at "m_enter"
  walk_at "m_steps"
  all_goals walk_at "m_ret"
  all_goals exact ⟨_, rfl, by assumption⟩

theorem marked_ss {D2 : Addr} {c d : Int} (hD : FA base news D a b) (hD2 : FA base news D2 c d) : SpecW w p loose mean mg mb 5 base news 78 [.ref D, .ref D2] (fun n v => ∃ D', v = .ref D' ∧ FA base n D' 0 0) False := by
  refine' enterN [("x", .ref D), ("y", .ref D2)] [("y", .ref D2), ("x", .ref D)] ?hrb ?ho ?hcd ?hbind ?hloc ?hco ?hgen ?hk ?hcell ?_
  walk_at "m_enter"
  walk_at "m_steps"
  all_goals walk_at "m_ret"
  all_goals exact ⟨_, rfl, by walk_at "m_fa"⟩
theorem marked_ns {v : Value} : SpecW w p loose mean mg mb 5 base news 78 [.none, v] (fun _ v => v = .none) False := by
  refine' enterN [("x", .none), ("y", v)] [("y", v), ("x", .none)] ?hrb ?ho ?hcd ?hbind ?hloc ?hco ?hgen ?hk ?hcell ?_
  walk_at "m_enter"
  walk_at "m_steps"
  all_goals walk_at "m_ret"
  all_goals rfl
theorem marked_sn (hD : FA base news D a b) : SpecW w p loose mean mg mb 5 base news 78 [.ref D, .none] (fun _ v => v = .none) False := by
  refine' enterN [("x", .ref D), ("y", .none)] [("y", .none), ("x", .ref D)] ?hrb ?ho ?hcd ?hbind ?hloc ?hco ?hgen ?hk ?hcell ?_
  walk_at "m_enter"
  walk_at "m_steps"
  all_goals walk_at "m_ret"
  all_goals rfl
end
local macro_rules | `(tactic| walk_at "call ref") => `(tactic| ((with_reducible show wpAny _ _ (call (Value.ref 71) [Value.ref _]) _ _ _); k_dflt (refine' Spec.useR (is_na_some ?x) ?hA ?hh ?hr ?he ?C ?F ?N ?_ ?exc ?hck; walk_at "m_used"; (case x => walk_at "m_fam")); walk_at "m_got"))
local macro_rules | `(tactic| walk_at "call ref") => `(tactic| ((with_reducible show wpAny _ _ (call (Value.ref 71) [Value.none]) _ _ _); k_dflt (refine' Spec.useR is_na_none ?hA ?hh ?hr ?he ?C ?F ?N ?_ ?exc ?hck; walk_at "m_used"); walk_at "m_got"))
local macro_rules | `(tactic| walk_at "call ref") => `(tactic| ((with_reducible show wpAny _ _ (call (Value.ref 85) [Value.ref _]) _ _ _); k_dflt (refine' Spec.useR (neg_some ?x) ?hA ?hh ?hr ?he ?C ?F ?N ?_ ?exc ?hck; walk_at "m_used"; (case x => walk_at "m_fam")); walk_at "m_got"))
local macro_rules | `(tactic| walk_at "call ref") => `(tactic| ((with_reducible show wpAny _ _ (call (Value.ref 78) [Value.ref _, Value.ref _]) _ _ _); k_dflt (refine' Spec.useR (marked_ss ?x ?y) ?hA ?hh ?hr ?he ?C ?F ?N ?_ ?exc ?hck; walk_at "m_used"; (case x => walk_at "m_fam"); (case y => walk_at "m_fam")); walk_at "m_got"))
local macro_rules | `(tactic| walk_at "call ref") => `(tactic| ((with_reducible show wpAny _ _ (call (Value.ref 78) [Value.none, _]) _ _ _); k_dflt (refine' Spec.useR marked_ns ?hA ?hh ?hr ?he ?C ?F ?N ?_ ?exc ?hck; walk_at "m_used"); walk_at "m_got"))
local macro_rules | `(tactic| walk_at "call ref") => `(tactic| ((with_reducible show wpAny _ _ (call (Value.ref 78) [Value.ref _, Value.none]) _ _ _); k_dflt (refine' Spec.useR (marked_sn ?x) ?hA ?hh ?hr ?he ?C ?F ?N ?_ ?exc ?hck; walk_at "m_used"; (case x => walk_at "m_fam")); walk_at "m_got"))
section
variable {w : World} {p : Program} {loose : List Str} {mean : ExcName → Option Value} {mg mb : Str → Option Value} {base : Heap} {l news : List (Addr × Obj)} {D : Addr}
theorem gcd_spec {a b : Nat} {ta tb : Tok} : SpecW w p loose mean mg mb 5 base news 57 [.int a ta, .int b tb] (fun n v => ∃ t, v = .int (Nat.gcd a b) t) False := by
  refine' enterN [("a", .int a ta), ("b", .int b tb)] [("b", .int b tb), ("a", .int a ta)] ?hrb ?ho ?hcd ?hbind ?hloc ?hco ?hgen ?hk ?hcell ?_
  walk_at "m_enter"
  k_with "exec While Compare cons nil" => (
    refine' while_st (σ := Nat × Nat × Tok × Tok) (fun c => [("b", .int c.2.1 c.2.2.2), ("a", .int c.1 c.2.2.1)]) (fun c => Nat.gcd c.1 c.2.1 = Nat.gcd a b) (fun c => c.2.1) (a, b, ta, tb) ?F ?N ?e ?i ?turn ?hE; (case F => assumption); (case N => assumption);
    (case e => walk_at "m_map"); (case i => rfl); (case hE => exact PassesOwn.never);
    (case' turn => (rintro ⟨x, y, tx, ty⟩ h tk G hi F' N' hG; dsimp only at hi F' hG)))
  walk_at "m_steps"
  · simp only [fmod_nat] at *
    refine' hG (y, x % y, _, _) _ _ ?i ?lt (frMap ?F ?e) ?N
    walk_at "m_turn"
    · dsimp only; rw [Nat.gcd_comm, ← Nat.gcd_rec, Nat.gcd_comm]; exact hi
    · exact Nat.mod_lt _ (by omega)
  · walk_at "m_ret"
    have : y = 0 := by omega
    subst this
    exact ⟨_, by rw [← hi, Nat.gcd_zero_right]⟩
theorem gcd_int {a b : Int} {ta tb : Tok} (ha : 0 ≤ a) (hb : 0 ≤ b) : SpecW w p loose mean mg mb 5 base news 57 [.int a ta, .int b tb] (fun n v => ∃ t, v = .int (Int.gcd a b) t) False := by
  obtain ⟨x, rfl⟩ := Int.eq_ofNat_of_zero_le ha
  obtain ⟨y, rfl⟩ := Int.eq_ofNat_of_zero_le hb
  exact gcd_spec
end
local macro_rules | `(tactic| walk_at "call ref") => `(tactic| ((with_reducible show wpAny _ _ (call (Value.ref 57) [Value.int _ _, Value.int _ _]) _ _ _); k_dflt (refine' Spec.useR (gcd_int ?ga ?gb) ?hA ?hh ?hr ?he ?C ?F ?N ?_ ?exc ?hck; (case ga => walk_at "m_ar"); (case gb => walk_at "m_ar"); walk_at "m_used"); walk_at "m_got"))
theorem gcdNe {x d : Int} (h : d ≠ 0) : ((Int.gcd x d : Nat) : Int) ≠ 0 := by
  have : Int.gcd x d ≠ 0 := fun e => h (Int.gcd_eq_zero_iff.mp e).2
  omega
theorem gcdLt {x d : Int} (h : d ≠ 0) (hb : d.natAbs < big) : ((Int.gcd x d : Nat) : Int).natAbs < big := by
  have : Int.gcd x d ≤ d.natAbs := Nat.le_of_dvd (by omega) (Nat.gcd_dvd_right _ _)
  omega
theorem mk_num {n d : Int} (h : 0 < d) : n.fdiv (Int.gcd n.natAbs d : Nat) = (Rat.divInt n d).num ∧ d.fdiv (Int.gcd n.natAbs d : Nat) = ((Rat.divInt n d).den : Int) := by
  have e : Int.gcd n.natAbs d = Int.gcd d n := by unfold Int.gcd; rw [Int.natAbs_natCast, Nat.gcd_comm]
  rw [e, Int.fdiv_eq_ediv_of_nonneg _ (Int.natCast_nonneg _), Int.fdiv_eq_ediv_of_nonneg _ (Int.natCast_nonneg _), Rat.num_divInt, Rat.den_divInt, if_neg (by omega), Int.sign_eq_one_of_pos h, Int.one_mul]
  refine ⟨rfl, ?_⟩
  rw [Int.natCast_ediv]
  congr 1
  omega
theorem mk_neg {n d : Int} : Rat.divInt (0 - n) (0 - d) = Rat.divInt n d := by
  rw [Int.zero_sub, Int.zero_sub, Rat.neg_divInt_neg]
section
variable {w : World} {p : Program} {loose : List Str} {mean : ExcName → Option Value} {mg mb : Str → Option Value} {base : Heap} {l news : List (Addr × Obj)} {D : Addr}
theorem make_spec {n d : Int} {tn td : Tok} (hd0 : d ≠ 0) (fn : n.natAbs < big) (fd : d.natAbs < big) : SpecW w p loose mean mg mb 7 base news 64 [.int n tn, .int d td] (fun l v => ∃ D, v = .ref D ∧ FA base l D (Rat.divInt n d).num (Rat.divInt n d).den) False := by
  refine' enterN [("n", .int n tn), ("d", .int d td)] [("d", .int d td), ("n", .int n tn)] ?hrb ?ho ?hcd ?hbind ?hloc ?hco ?hgen ?hk ?hcell ?_
  walk_at "m_enter"
  k_with "ar" => (first | exact gcdNe (by omega) | exact gcdLt (by omega) (by omega))
  walk_at "m_steps"
  all_goals first | (exfalso; omega) | skip
  all_goals walk_at "m_ret"
  · rw [← mk_neg]
    have e := @mk_num (0 - n) (0 - d) (by omega)
    rw [← e.1, ← e.2]
    exact ⟨_, rfl, by assumption⟩
  · have e := @mk_num n d (by omega)
    rw [← e.1, ← e.2]
    exact ⟨_, rfl, by assumption⟩
end
local macro_rules | `(tactic| walk_at "call ref") => `(tactic| ((with_reducible show wpAny _ _ (call (Value.ref 64) [Value.int _ _, Value.int _ _]) _ _ _); k_dflt (refine' Spec.useR (make_spec ?g1 ?g2 ?g3) ?hA ?hh ?hr ?he ?C ?F ?N ?_ ?exc ?hck; (case g1 => walk_at "m_ar"); (case g2 => walk_at "m_ar"); (case g3 => walk_at "m_ar"); walk_at "m_used"); walk_at "m_got"))
section
variable {w : World} {p : Program} {loose : List Str} {mean : ExcName → Option Value} {mg mb : Str → Option Value} {base : Heap} {l news : List (Addr × Obj)} {D : Addr}
theorem init_ok : InitOK w (hd.heap_1 w.params) p loose mean mg mb PySem.Challenge.pw_ov0047_01 44 41 base := by
  intro e t news tk ne
  refine' enterG [("self", .ref e), ("message", .str "result is not exact" tk)] [("message", .str "result is not exact" tk), ("self", .ref e)] ?hrb ?ho ?hcd ?hbind ?hloc ?hco ?hgen ?hk ?hcell ?_
  walk_at "m_enter"
  k_with "setAttr ref" => (refine' setExc ?F ?X ?N ?hs ?hc ?hm ?hh ?ht ?h2 ?_; (case F => with_reducible assumption); (case X => with_reducible assumption); (case N => with_reducible assumption); (case hs => k_dflt k_is); (case hc => k_dflt k_is); (case hm => exact rfl); (case hh => exact rfl); (case ht => k_dflt k_is); (case h2 => assumption); intro dx h' tk1 tk2 F' N'; (try dsimp only))
  walk_at "m_steps"
  exact ret _ _ _ _ _ _ C F' N' ⟨rfl, dx, _, ⟨_, _, _, rfl⟩, rfl⟩
end
local macro_rules | `(tactic| walk_at "exec Raise some none") => `(tactic| (k_dflt (refine' raiseX (CE := 44) ?hA ?hh ?hr ?he ?C ?F ?N ?_ ?ex ?ho ?ht ?hbase ?hi ?hf init_ok ?hev ?hst ?hk ?hx ?hdb; walk_at "m_fcn"; (case hA => with_reducible assumption); (case hh => with_reducible assumption); walk_at "m_du"; (case ex => k_dflt k_is); (case ho => k_dflt k_is); (case ht => kernel_rfl); (case hbase => exact rfl); (case hi => k_dflt k_is); (case hf => k_dflt k_is); (case hst => exact rfl); (case hk => exact rfl); (case hx => exact rfl); (case hdb => decide); (case hev => (intro E s hs Q hq; repeat (first | exact hq _ _ | walk1 | (dsimp only; walk1))))); intro e' h1' h' tk' C' F' N' fl'; (try dsimp only)))
def mkF (n d : Int) : Int × Int := ((Rat.divInt n d).num, ((Rat.divInt n d).den : Int))
def wholeF (a b n : Int) : Option (Int × Int) :=
  if a = 1 ∧ b = 1 then some (1, 1) else if a = -1 ∧ b = 1 then some (if n % 2 = 0 then (1, 1) else (a, b))
  else if 4096 < n.natAbs then none else if 0 ≤ n then some (a ^ n.toNat, b ^ n.toNat) else some (mkF (b ^ (0 - n).toNat) (a ^ (0 - n).toNat))
theorem fmod2 (n : Int) : n.fmod 2 = n % 2 := Int.fmod_eq_emod_of_nonneg _ (by decide)
theorem okr {o : Option (Int × Int)} {base : Heap} {l : List (Addr × Obj)} {D : Addr} {c d : Int} (x : FA base l D c d) (e : o = some (c, d)) : ∃ r D', o = some r ∧ Value.ref D = .ref D' ∧ FA base l D' r.1 r.2 := ⟨_, D, e, rfl, x⟩
section
variable {w : World} {p : Program} {loose : List Str} {mean : ExcName → Option Value} {mg mb : Str → Option Value} {base : Heap} {l news : List (Addr × Obj)} {D : Addr}
theorem whole_spec {a b n : Int} {tn : Tok} (x : FA base news D a b) (fa : a.natAbs < big) (fb : b.natAbs < big)
    (fw : n < 0 → n.natAbs ≤ 4096 → a ^ (0 - n).toNat ≠ 0 ∧ (a ^ (0 - n).toNat).natAbs < big ∧ (b ^ (0 - n).toNat).natAbs < big) :
    SpecW w p loose mean mg mb 9 base news 141 [.ref D, .int n tn] (fun l v => ∃ r D', wholeF a b n = some r ∧ v = .ref D' ∧ FA base l D' r.1 r.2) (wholeF a b n = none) := by
  refine' enterX [("x", .ref D), ("n", .int n tn)] [("n", .int n tn), ("x", .ref D)] ?hrb ?ho ?hcd ?hbind ?hloc ?hco ?hgen ?hk ?hcell ?_
  walk_at "m_enter"
  intro X exc
  k_with "ar" => (first | exact (fw (by omega) (by omega)).1 | exact (fw (by omega) (by omega)).2.1 | exact (fw (by omega) (by omega)).2.2)
  walk_at "m_steps"
  all_goals first | walk_at "m_ret" | walk_at "m_exc"
  all_goals try refine okr (by walk_at "m_fa") ?_
  all_goals try simp only [fmod2] at *
  all_goals unfold wholeF
  all_goals grind [mkF]
end
local macro_rules | `(tactic| walk_at "m_okr") => `(tactic| first | refine okr (by walk_at "m_fa") ?_ | refine okr (by walk_at "m_fam") ?_ | skip)
local macro_rules | `(tactic| walk_at "call ref") => `(tactic| ((with_reducible show wpAny _ _ (call (Value.ref 141) [Value.ref _, Value.int _ _]) _ _ _); k_dflt (refine' Spec.useR (whole_spec ?x ?g1 ?g2 ?g3) ?hA ?hh ?hr ?he ?C ?F ?N ?_ ?_ ?hck; walk_at "m_use"; (case x => walk_at "m_fam"); (case g1 => walk_at "m_ar"); (case g2 => walk_at "m_ar"); (case g3 => walk_at "m_ar"); walk_at "m_usedE"); walk_at "m_got"))
section
variable {w : World} {p : Program} {loose : List Str} {mean : ExcName → Option Value} {mg mb : Str → Option Value} {base : Heap} {l news : List (Addr × Obj)} {D D2 : Addr}
theorem mul_spec {a b c d : Int} (x : FA base news D a b) (y : FA base news D2 c d) (kb : b ≠ 0) (kd : d ≠ 0) (f1 : a.natAbs < big) (f2 : b.natAbs < big) (f3 : c.natAbs < big) (f4 : d.natAbs < big) (f5 : (a * c).natAbs < big) (f6 : (b * d).natAbs < big) :
    SpecW w p loose mean mg mb 9 base news 92 [.ref D, .ref D2] (fun l v => ∃ D', v = .ref D' ∧ FA base l D' (mkF (a * c) (b * d)).1 (mkF (a * c) (b * d)).2) False := by
  refine' enterN [("x", .ref D), ("y", .ref D2)] [("y", .ref D2), ("x", .ref D)] ?hrb ?ho ?hcd ?hbind ?hloc ?hco ?hgen ?hk ?hcell ?_
  walk_at "m_enter"
  have hbd : b * d ≠ 0 := Int.mul_ne_zero kb kd
  walk_at "m_steps"
  all_goals first | (exfalso; omega) | walk_at "m_ret"
  all_goals exact ⟨_, rfl, by assumption⟩
theorem div_spec {a b c d : Int} (x : FA base news D a b) (y : FA base news D2 c d) (kb : b ≠ 0) (kc : c ≠ 0) (kd : d ≠ 0) (f1 : a.natAbs < big) (f2 : b.natAbs < big) (f3 : c.natAbs < big) (f4 : d.natAbs < big) (f5 : (a * d).natAbs < big) (f6 : (b * c).natAbs < big) :
    SpecW w p loose mean mg mb 9 base news 99 [.ref D, .ref D2] (fun l v => ∃ D', v = .ref D' ∧ FA base l D' (mkF (a * d) (b * c)).1 (mkF (a * d) (b * c)).2) False := by
  refine' enterN [("x", .ref D), ("y", .ref D2)] [("y", .ref D2), ("x", .ref D)] ?hrb ?ho ?hcd ?hbind ?hloc ?hco ?hgen ?hk ?hcell ?_
  walk_at "m_enter"
  have hbd : b * c ≠ 0 := Int.mul_ne_zero kb kc
  walk_at "m_steps"
  all_goals first | (exfalso; omega) | walk_at "m_ret"
  all_goals exact ⟨_, rfl, by assumption⟩
end
theorem newtonZ {n g : Int} (h0 : 0 ≤ n) (hg : 0 < g) : (sq n.toNat : Int) ≤ (g + n.fdiv g).fdiv 2 := by
  obtain ⟨n, rfl⟩ := Int.eq_ofNat_of_zero_le h0
  obtain ⟨g, rfl⟩ := Int.eq_ofNat_of_zero_le (Int.le_of_lt hg)
  rw [fdiv_nat, ← Int.natCast_add, show (2 : Int) = ((2 : Nat) : Int) from rfl, fdiv_nat]
  exact Int.ofNat_le.mpr (newton_ge (by omega))
theorem newtonE {n g : Int} (h0 : 0 ≤ n) (hg : 0 < g) (hs : (sq n.toNat : Int) ≤ g) (h : ¬ (g + n.fdiv g).fdiv 2 < g) : g = (sq n.toNat : Int) := by
  obtain ⟨n, rfl⟩ := Int.eq_ofNat_of_zero_le h0
  obtain ⟨g, rfl⟩ := Int.eq_ofNat_of_zero_le (Int.le_of_lt hg)
  rw [fdiv_nat, ← Int.natCast_add, show (2 : Int) = ((2 : Nat) : Int) from rfl, fdiv_nat] at h
  simp only [Int.toNat_natCast] at *
  exact congrArg _ (newton_end (Int.ofNat_le.mp hs) (by omega))
theorem sqLtZ {n g : Int} (h0 : 0 ≤ n) (hg : 0 < g) (h : ¬ g * g ≤ n) : (sq n.toNat : Int) ≤ g := by
  obtain ⟨n, rfl⟩ := Int.eq_ofNat_of_zero_le h0
  obtain ⟨g, rfl⟩ := Int.eq_ofNat_of_zero_le (Int.le_of_lt hg)
  refine Int.ofNat_le.mpr (Nat.le_of_not_lt fun q => h ?_)
  have := Nat.mul_le_mul (Nat.le_of_lt q) (Nat.le_of_lt q)
  exact Int.ofNat_le.mpr (Nat.le_trans this (sq_spec n).1)
theorem sqPosZ {n : Int} (h : 2 ≤ n) : (0 : Int) < (sq n.toNat : Int) := Int.ofNat_lt.mpr (sq_pos (by omega))
theorem sqSmall {n : Int} (h0 : 0 ≤ n) (h : n < 2) : n = (sq n.toNat : Int) := by
  have : n = 0 ∨ n = 1 := by omega
  rcases this with rfl | rfl <;> rfl
theorem leSq {g n : Int} (hg : 0 < g) (h : g * g ≤ n) : g ≤ n := by
  have : g * 1 ≤ g * g := Int.mul_le_mul_of_nonneg_left (by omega) (by omega)
  omega
theorem big_ge : 4 * sml ≤ big := sml_big (by decide)
section
variable {w : World} {p : Program} {loose : List Str} {mean : ExcName → Option Value} {mg mb : Str → Option Value} {base : Heap} {l news : List (Addr × Obj)} {D : Addr}
theorem isqrt_spec {n : Int} {tn : Tok} (h0 : 0 ≤ n) (hn : n.natAbs < sml) : SpecW w p loose mean mg mb 5 base news 106 [.int n tn] (fun l v => ∃ t, v = .int (sq n.toNat) t) False := by
  refine' enterN [("n", .int n tn)] [("n", .int n tn)] ?hrb ?ho ?hcd ?hbind ?hloc ?hco ?hgen ?hk ?hcell ?_
  walk_at "m_enter"
  have hbig := big_ge
  k_with "exec While Compare cons nil" => (first
    | (refine' while_st (σ := Int × Tok) (fun c => [("guess", .int c.1 c.2), ("n", .int n tn)]) (fun c => 0 < c.1 ∧ c.1 ≤ 2 * n) (fun c => (2 * n - c.1).toNat) (1, _) ?F ?N ?e ?i ?turn ?hE; (case F => assumption); (case N => assumption); (case e => walk_at "m_map"); (case i => (dsimp only; omega)); (case hE => exact PassesOwn.never); (case' turn => (rintro ⟨x, tx⟩ h tk G hi F' N' hG; dsimp only at hi F' hG)))
    | (refine' while_st (σ := Int × Tok × Tok) (fun c => [("better", .int ((c.1 + n.fdiv c.1).fdiv 2) c.2.2), ("guess", .int c.1 c.2.1), ("n", .int n tn)]) (fun c => (sq n.toNat : Int) ≤ c.1 ∧ c.1 ≤ 2 * n) (fun c => c.1.toNat) (_, _, _) ?F3 ?N3 ?e3 ?i3 ?turn3 ?hE3; (case F3 => assumption); (case N3 => assumption); (case e3 => walk_at "m_map"); (case i3 => (dsimp only; first | (refine ⟨sqLtZ h0 ?_ ?_, ?_⟩ <;> omega))); (case hE3 => exact PassesOwn.never); (case' turn3 => (rintro ⟨x, tx, ty⟩ h tk G hi F' N' hG; dsimp only at hi F' hG))))
  k_with "ar" => (have q2 := sqPosZ (n := n) (by omega); have q1 := newtonZ (g := x) h0 (by omega); omega)
  walk_at "m_steps"
  · walk_at "m_ret"
    exact ⟨_, by rw [← sqSmall h0 (by omega)]⟩
  · have q3 := leSq (n := n) hi.1 (by assumption)
    refine' hG (x * 2, _) _ _ ?i1 ?lt1 (frMap ?F1 ?e1) ?N1
    walk_at "m_turn1"
    · dsimp only; omega
    · dsimp only; omega
  · have q2 := sqPosZ (n := n) (by omega)
    have q1 := newtonZ (g := x) h0 (by omega)
    refine' hG ((x + n.fdiv x).fdiv 2, _, _) _ _ ?i2 ?lt2 (frMap ?F2 ?e2) ?N2
    walk_at "m_turn2"
    · dsimp only; omega
    · dsimp only; omega
  · walk_at "m_ret"
    have q2 := sqPosZ (n := n) (by omega)
    exact ⟨_, by rw [← newtonE (g := x) h0 (by omega) hi.1 (by assumption)]⟩
end
local macro_rules | `(tactic| walk_at "call ref") => `(tactic| ((with_reducible show wpAny _ _ (call (Value.ref 106) [Value.int _ _]) _ _ _); k_dflt (refine' Spec.useR (isqrt_spec ?g1 ?g2) ?hA ?hh ?hr ?he ?C ?F ?N ?_ ?exc ?hck; (case g1 => walk_at "m_ar"); (case g2 => walk_at "m_ar"); walk_at "m_used"); walk_at "m_got"))
def rootF (a b : Int) : Option (Int × Int) :=
  if (a = 0 ∧ b = 0) ∨ (a = 1 ∧ b = 0) then some (a, b) else if a < 0 then some (0, 0)
  else if (sq a.toNat : Int) * (sq a.toNat : Int) = a ∧ (sq b.toNat : Int) * (sq b.toNat : Int) = b then some ((sq a.toNat : Int), (sq b.toNat : Int)) else none
theorem sqBig {a : Int} (h0 : 0 ≤ a) (h : a.natAbs < sml) : ((sq a.toNat : Nat) : Int).natAbs < big := by
  have := sq_le a.toNat
  have := big_ge
  omega
section
variable {w : World} {p : Program} {loose : List Str} {mean : ExcName → Option Value} {mg mb : Str → Option Value} {base : Heap} {l news : List (Addr × Obj)} {D : Addr}
theorem root_none : SpecW w p loose mean mg mb 7 base news 113 [.none] (fun _ v => v = .none) False := by
  refine' enterN [("x", .none)] [("x", .none)] ?hrb ?ho ?hcd ?hbind ?hloc ?hco ?hgen ?hk ?hcell ?_
  walk_at "m_enter"
  walk_at "m_steps"
  all_goals walk_at "m_ret"
  all_goals rfl
theorem root_spec {a b : Int} (x : FA base news D a b) (h0 : 0 ≤ b) (fa : a.natAbs < sml) (fb : b.natAbs < sml) :
    SpecW w p loose mean mg mb 7 base news 113 [.ref D] (fun l v => ∃ r D', rootF a b = some r ∧ v = .ref D' ∧ FA base l D' r.1 r.2) (rootF a b = none) := by
  refine' enterX [("x", .ref D)] [("x", .ref D)] ?hrb ?ho ?hcd ?hbind ?hloc ?hco ?hgen ?hk ?hcell ?_
  walk_at "m_enter"
  intro X exc
  k_with "ar" => (first | exact sqBig (by omega) (by omega))
  walk_at "m_steps"
  all_goals first | walk_at "m_ret" | walk_at "m_exc"
  all_goals first | refine okr (by walk_at "m_fa") ?_ | refine okr (by walk_at "m_fam") ?_ | skip
  all_goals unfold rootF
  all_goals (try generalize ((sq a.toNat : Nat) : Int) * ((sq a.toNat : Nat) : Int) = u at *)
  all_goals (try generalize ((sq b.toNat : Nat) : Int) * ((sq b.toNat : Nat) : Int) = u' at *)
  all_goals (try clear exc)
  all_goals clear F N hA hh hd hu C KX T
  all_goals grind
end
local macro_rules | `(tactic| walk_at "call ref") => `(tactic| ((with_reducible show wpAny _ _ (call (Value.ref 113) [Value.ref _]) _ _ _); k_dflt (refine' Spec.useR (root_spec ?x ?g1 ?g2 ?g3) ?hA ?hh ?hr ?he ?C ?F ?N ?_ ?_ ?hck; walk_at "m_use"; (case x => walk_at "m_fam"); (case g1 => walk_at "m_ar"); (case g2 => walk_at "m_ar"); (case g3 => walk_at "m_ar"); walk_at "m_usedE"); walk_at "m_got"))
local macro_rules | `(tactic| walk_at "call ref") => `(tactic| ((with_reducible show wpAny _ _ (call (Value.ref 113) [Value.none]) _ _ _); k_dflt (refine' Spec.useR root_none ?hA ?hh ?hr ?he ?C ?F ?N ?_ ?exc ?hck; walk_at "m_used"); walk_at "m_got"))
def endF (a b c : Int) : Int × Int := if a < 0 then (0, 0) else if ((b = 0 ∨ a > b) ↔ c > 0) then (1, 0) else (0, 1)
def infF (a b c d : Int) : Int × Int := if a < 0 ∧ d ≠ 1 then (0, 0) else if c < 0 then (0, 1) else if a < 0 ∧ c % 2 = 0 then (1, 0) else (a, b)
def powF (a b c d : Int) : Option (Int × Int) :=
  if (a = 1 ∧ b = 1) ∨ (c = 0 ∧ d = 1) then some (1, 1) else if (a = 0 ∧ b = 0) ∨ (c = 0 ∧ d = 0) then some (0, 0)
  else if a = 0 ∧ b = 1 then some (if c > 0 then (0, 1) else (1, 0)) else if d = 0 then some (endF a b c) else if b = 0 then some (infF a b c d)
  else if d = 1 then wholeF a b c else if a < 0 then some (0, 0) else if d = 2 then (rootF a b).bind (fun r => wholeF r.1 r.2 c) else none
theorem okv {q : Int × Int} {base : Heap} {l : List (Addr × Obj)} {D : Addr} {c d : Int} (x : FA base l D c d) (e : q = (c, d)) : ∃ D', Value.ref D = .ref D' ∧ FA base l D' q.1 q.2 := by subst e; exact ⟨D, rfl, x⟩
section
variable {w : World} {p : Program} {loose : List Str} {mean : ExcName → Option Value} {mg mb : Str → Option Value} {base : Heap} {l news : List (Addr × Obj)} {D D2 : Addr}
theorem end_spec {a b c : Int} {tc : Tok} (x : FA base news D a b) : SpecW w p loose mean mg mb 5 base news 127 [.ref D, .int c tc] (fun l v => ∃ D', v = .ref D' ∧ FA base l D' (endF a b c).1 (endF a b c).2) False := by
  refine' enterN [("x", .ref D), ("side", .int c tc)] [("side", .int c tc), ("x", .ref D)] ?hrb ?ho ?hcd ?hbind ?hloc ?hco ?hgen ?hk ?hcell ?_
  walk_at "m_enter"
  walk_at "m_steps"
  all_goals walk_at "m_ret"
  all_goals refine okv (by walk_at "m_fa") ?_
  all_goals unfold endF
  all_goals grind
theorem inf_spec {a b c d : Int} (x : FA base news D a b) (y : FA base news D2 c d) : SpecW w p loose mean mg mb 5 base news 134 [.ref D, .ref D2] (fun l v => ∃ D', v = .ref D' ∧ FA base l D' (infF a b c d).1 (infF a b c d).2) False := by
  refine' enterN [("x", .ref D), ("y", .ref D2)] [("y", .ref D2), ("x", .ref D)] ?hrb ?ho ?hcd ?hbind ?hloc ?hco ?hgen ?hk ?hcell ?_
  walk_at "m_enter"
  walk_at "m_steps"
  all_goals walk_at "m_ret"
  all_goals try simp only [fmod2] at *
  all_goals first | refine okv (by walk_at "m_fa") ?_ | refine okv (by walk_at "m_fam") ?_
  all_goals unfold infF
  all_goals grind
theorem power_nv {v : Value} (hv : v = .none ∨ ∃ D2 c d, v = .ref D2 ∧ FA base news D2 c d ∧ ¬ (c = 0 ∧ d = 1)) : SpecW w p loose mean mg mb 7 base news 120 [.none, v] (fun _ r => r = .none) False := by
  refine' enterN [("x", .none), ("y", v)] [("y", v), ("x", .none)] ?hrb ?ho ?hcd ?hbind ?hloc ?hco ?hgen ?hk ?hcell ?_
  walk_at "m_enter"
  rcases hv with rfl | ⟨D2, c, d, rfl, y, hy⟩
  all_goals walk_at "m_steps"
  all_goals walk_at "m_ret"
  all_goals rfl
theorem power_sn {a b : Int} (x : FA base news D a b) (hx : ¬ (a = 1 ∧ b = 1)) : SpecW w p loose mean mg mb 7 base news 120 [.ref D, .none] (fun _ r => r = .none) False := by
  refine' enterN [("x", .ref D), ("y", .none)] [("y", .none), ("x", .ref D)] ?hrb ?ho ?hcd ?hbind ?hloc ?hco ?hgen ?hk ?hcell ?_
  walk_at "m_enter"
  walk_at "m_steps"
  all_goals walk_at "m_ret"
  all_goals rfl
theorem power_n0 {c d : Int} (y : FA base news D2 c d) (hy : c = 0 ∧ d = 1) : SpecW w p loose mean mg mb 7 base news 120 [.none, .ref D2] (fun l v => ∃ D', v = .ref D' ∧ FA base l D' 1 1) False := by
  refine' enterN [("x", .none), ("y", .ref D2)] [("y", .ref D2), ("x", .none)] ?hrb ?ho ?hcd ?hbind ?hloc ?hco ?hgen ?hk ?hcell ?_
  walk_at "m_enter"
  walk_at "m_steps"
  all_goals walk_at "m_ret"
  all_goals exact ⟨_, rfl, by walk_at "m_fa"⟩
theorem power_1n {a b : Int} (x : FA base news D a b) (hx : a = 1 ∧ b = 1) : SpecW w p loose mean mg mb 7 base news 120 [.ref D, .none] (fun l v => ∃ D', v = .ref D' ∧ FA base l D' 1 1) False := by
  refine' enterN [("x", .ref D), ("y", .none)] [("y", .none), ("x", .ref D)] ?hrb ?ho ?hcd ?hbind ?hloc ?hco ?hgen ?hk ?hcell ?_
  walk_at "m_enter"
  walk_at "m_steps"
  all_goals walk_at "m_ret"
  all_goals exact ⟨_, rfl, by walk_at "m_fa"⟩
end
local macro_rules | `(tactic| walk_at "call ref") => `(tactic| ((with_reducible show wpAny _ _ (call (Value.ref 127) [Value.ref _, Value.int _ _]) _ _ _); k_dflt (refine' Spec.useR (end_spec ?x) ?hA ?hh ?hr ?he ?C ?F ?N ?_ ?exc ?hck; walk_at "m_used"; (case x => walk_at "m_fam")); walk_at "m_got"))
local macro_rules | `(tactic| walk_at "call ref") => `(tactic| ((with_reducible show wpAny _ _ (call (Value.ref 134) [Value.ref _, Value.ref _]) _ _ _); k_dflt (refine' Spec.useR (inf_spec ?x ?y) ?hA ?hh ?hr ?he ?C ?F ?N ?_ ?exc ?hck; walk_at "m_used"; (case x => walk_at "m_fam"); (case y => walk_at "m_fam")); walk_at "m_got"))
def wOK (a b n : Int) : Prop := a.natAbs < big ∧ b.natAbs < big ∧ (n < 0 → n.natAbs ≤ 4096 → a ^ (0 - n).toNat ≠ 0 ∧ (a ^ (0 - n).toNat).natAbs < big ∧ (b ^ (0 - n).toNat).natAbs < big)
/-- what the branches that count ask of the sizes -/
def Sd (a b c d : Int) : Prop := b ≠ 0 → ¬ (a = 0 ∧ b = 1) → ¬ (a = 1 ∧ b = 1) → (d = 1 → wOK a b c) ∧ (d = 2 → 0 ≤ a → ∀ r, rootF a b = some r → wOK r.1 r.2 c)
theorem Sd.triv {a b c d : Int} (h1 : d ≠ 1) (h2 : d ≠ 2) : Sd a b c d := fun _ _ _ => ⟨fun h => absurd h h1, fun h => absurd h h2⟩
theorem Sd.b0 {a c d : Int} : Sd a 0 c d := fun h => absurd rfl h
theorem Sd.zero {c d : Int} : Sd 0 1 c d := fun _ h => absurd ⟨rfl, rfl⟩ h
theorem Sd.one {c d : Int} : Sd 1 1 c d := fun _ _ h => absurd ⟨rfl, rfl⟩ h
theorem Sd.w1 {a b c : Int} (h : wOK a b c) : Sd a b c 1 := fun _ _ _ => ⟨fun _ => h, fun h => absurd h (by decide)⟩
theorem Sd.w2 {a b c : Int} (h : 0 ≤ a → ∀ r, rootF a b = some r → wOK r.1 r.2 c) : Sd a b c 2 := fun _ _ _ => ⟨fun h => absurd h (by decide), fun _ => h⟩
section
variable {w : World} {p : Program} {loose : List Str} {mean : ExcName → Option Value} {mg mb : Str → Option Value} {base : Heap} {l news : List (Addr × Obj)} {D D2 : Addr}
theorem power_ss {a b c d : Int} (x : FA base news D a b) (y : FA base news D2 c d) (h0 : 0 ≤ b) (fa : a.natAbs < sml) (fb : b.natAbs < sml) (sd : Sd a b c d) :
    SpecW w p loose mean mg mb 12 base news 120 [.ref D, .ref D2] (fun l v => ∃ r D', powF a b c d = some r ∧ v = .ref D' ∧ FA base l D' r.1 r.2) (powF a b c d = none) := by
  refine' enterX [("x", .ref D), ("y", .ref D2)] [("y", .ref D2), ("x", .ref D)] ?hrb ?ho ?hcd ?hbind ?hloc ?hco ?hgen ?hk ?hcell ?_
  walk_at "m_enter"
  intro X exc
  k_with "ar" => (first | exact ((sd (by assumption) (by assumption) (by assumption)).1 (by assumption)).1 | exact ((sd (by assumption) (by assumption) (by assumption)).1 (by assumption)).2.1 | exact ((sd (by assumption) (by assumption) (by assumption)).1 (by assumption)).2.2 | exact ((sd (by assumption) (by assumption) (by assumption)).2 (by assumption) (by omega) _ (by assumption)).1 | exact ((sd (by assumption) (by assumption) (by assumption)).2 (by assumption) (by omega) _ (by assumption)).2.1 | exact ((sd (by assumption) (by assumption) (by assumption)).2 (by assumption) (by omega) _ (by assumption)).2.2)
  walk_at "m_steps"
  all_goals first | walk_at "m_ret" | walk_at "m_exc"
  all_goals walk_at "m_okr"
  all_goals unfold powF
  all_goals grind
end
local macro_rules | `(tactic| walk_at "call ref") => `(tactic| ((with_reducible show wpAny _ _ (call (Value.ref 120) [Value.ref _, Value.ref _]) _ _ _); k_dflt (refine' Spec.useR (power_ss ?x ?y ?g0 ?g1 ?g2 ?g3) ?hA ?hh ?hr ?he ?C ?F ?N ?_ ?_ ?hck; walk_at "m_use"; (case x => walk_at "m_fam"); (case y => walk_at "m_fam"); (case g0 => walk_at "m_ar"); (case g1 => walk_at "m_ar"); (case g2 => walk_at "m_ar"); (case g3 => with_reducible assumption); walk_at "m_usedE"); walk_at "m_got"))
theorem plainNe {g a b : Nat} (h : Nat.gcd 0 g = Nat.gcd a b) (hb : 0 < b) : (g : Int) ≠ 0 := by
  rw [Nat.gcd_zero_left] at h
  have : 0 < Nat.gcd a b := Nat.gcd_pos_of_pos_right _ hb
  omega
theorem plainLt {g a b : Nat} (h : Nat.gcd 0 g = Nat.gcd a b) (hb : 0 < b) (hd : b < big) : (g : Int).natAbs < big := by
  rw [Nat.gcd_zero_left] at h
  have : Nat.gcd a b ≤ b := Nat.gcd_le_right _ hb
  omega
section
variable {w : World} {p : Program} {loose : List Str} {mean : ExcName → Option Value} {mg mb : Str → Option Value} {base : Heap} {l news : List (Addr × Obj)} {D : Addr}
theorem plain_nat {n : Int} {d : Nat} {tn td : Tok} (kd : 0 < d) (fd : d < big) : SpecW w p loose mean mg mb 7 base news 162 [.int n tn, .int (d : Int) td] (fun l v => ∃ D, v = .ref D ∧ FA base l D (mkF n d).1 (mkF n d).2) False := by
  refine' enterN [("n", .int n tn), ("d", .int (d : Int) td)] [("d", .int (d : Int) td), ("n", .int n tn)] ?hrb ?ho ?hcd ?hbind ?hloc ?hco ?hgen ?hk ?hcell ?_
  walk_at "m_enter"
  k_with "exec While Compare cons nil" => (
    refine' while_st (σ := Nat × Nat × Tok × Tok) (fun c => [("right", .int c.2.1 c.2.2.2), ("left", .int c.1 c.2.2.1), ("n", .int n tn), ("d", .int (d : Int) td)]) (fun c => Nat.gcd c.1 c.2.1 = Nat.gcd n.natAbs d) (fun c => c.1) (n.natAbs, d, _, _) ?F ?N ?e ?i ?turn ?hE; (case F => assumption); (case N => assumption);
    (case e => walk_at "m_map"); (case i => rfl); (case hE => exact PassesOwn.never);
    (case' turn => (rintro ⟨x, y, tx, ty⟩ h tk G hi F' N' hG; dsimp only at hi F' hG)))
  k_with "ar" => (obtain rfl : x = 0 := (by omega); first | exact plainNe hi kd | exact plainLt hi kd fd)
  walk_at "m_steps"
  · simp only [fmod_nat] at *
    refine' hG (y % x, x, _, _) _ _ ?i1 ?lt1 (frMap ?F1 ?e1) ?N1
    walk_at "m_turn1"
    · dsimp only; rw [← Nat.gcd_rec]; exact hi
    · exact Nat.mod_lt _ (by omega)
  · walk_at "m_ret"
    obtain rfl : x = 0 := by omega
    rw [Nat.gcd_zero_left] at hi
    subst hi
    have e := @mk_num n d (by omega)
    refine okv (by walk_at "m_fa") ?_
    unfold mkF
    rw [← e.1, ← e.2]
    rfl
theorem plain_spec {n d : Int} {tn td : Tok} (kd : 0 < d) (fd : d.natAbs < big) : SpecW w p loose mean mg mb 7 base news 162 [.int n tn, .int d td] (fun l v => ∃ D, v = .ref D ∧ FA base l D (mkF n d).1 (mkF n d).2) False := by
  obtain ⟨y, rfl⟩ := Int.eq_ofNat_of_zero_le (Int.le_of_lt kd)
  exact plain_nat (by omega) (by omega)
end
local macro_rules | `(tactic| walk_at "call ref") => `(tactic| ((with_reducible show wpAny _ _ (call (Value.ref 162) [Value.int _ _, Value.int _ _]) _ _ _); k_dflt (refine' Spec.useR (plain_spec ?ga ?gb) ?hA ?hh ?hr ?he ?C ?F ?N ?_ ?exc ?hck; (case ga => walk_at "m_ar"); (case gb => walk_at "m_ar"); walk_at "m_used"); walk_at "m_got"))
theorem p2 {b : Int} (h : b ≤ 4000) : (0 : Int) < 2 ^ b.toNat ∧ (2 : Int) ^ b.toNat ≤ sml := by
  have h1 : (2 : Int) ^ b.toNat = ((2 ^ b.toNat : Nat) : Int) := by rw [Int.natCast_pow]; rfl
  have h2 : 0 < 2 ^ b.toNat := Nat.pow_pos (by decide)
  have h3 := pow_le_sml (k := b.toNat) (by omega)
  omega
theorem p4 {b n : Int} (h0 : 0 ≤ b) (hn : n.natAbs < sml) (h : 4 ^ b.toNat ≤ n) : b < 2000 := by
  apply Int.lt_of_not_ge
  intro hb
  have h1 : (4 : Int) ^ b.toNat = ((4 ^ b.toNat : Nat) : Int) := by rw [Int.natCast_pow]; rfl
  have h2 : 4 ^ 2000 ≤ 4 ^ b.toNat := Nat.pow_le_pow_right (by decide) (by omega)
  have h3 : sml = 4 ^ 2000 := by rw [sml_is, show 4000 = 2 * 2000 from rfl, Nat.pow_mul]
  omega
theorem sideUp {n u : Int} (h0 : 0 ≤ n) (hu : 0 ≤ u) (h : u ^ Int.toNat 2 ≤ n) : u ≤ (sq n.toNat : Int) := by
  obtain ⟨n, rfl⟩ := Int.eq_ofNat_of_zero_le h0
  obtain ⟨u, rfl⟩ := Int.eq_ofNat_of_zero_le hu
  have h' : u * u ≤ n := by
    have : ((u : Int)) ^ 2 ≤ n := h
    rw [show ((u : Int)) ^ 2 = ((u * u : Nat) : Int) from by rw [Int.pow_succ, Int.pow_succ, Int.pow_zero, Int.one_mul, Int.natCast_mul]] at this
    omega
  rw [Int.toNat_natCast]
  refine Int.ofNat_le.mpr (Nat.le_of_not_lt fun q => ?_)
  have := Nat.mul_le_mul q q
  have := (sq_spec n).2
  simp only [Nat.succ_eq_add_one] at *
  omega
theorem sideNo {n u : Int} (h0 : 0 ≤ n) (hu : 0 ≤ u) (h : ¬ u ^ Int.toNat 2 ≤ n) : (sq n.toNat : Int) < u := by
  obtain ⟨n, rfl⟩ := Int.eq_ofNat_of_zero_le h0
  obtain ⟨u, rfl⟩ := Int.eq_ofNat_of_zero_le hu
  have h' : ¬ u * u ≤ n := fun q => h (by
    show ((u : Int)) ^ 2 ≤ n
    rw [show ((u : Int)) ^ 2 = ((u * u : Nat) : Int) from by rw [Int.pow_succ, Int.pow_succ, Int.pow_zero, Int.one_mul, Int.natCast_mul]]
    omega)
  rw [Int.toNat_natCast]
  refine Int.ofNat_lt.mpr (Nat.lt_of_not_le fun q => h' ?_)
  exact Nat.le_trans (Nat.mul_le_mul q q) (sq_spec n).1
theorem sideTop {n b : Int} (h0 : 0 ≤ n) (h : ¬ 4 ^ b.toNat ≤ n) : (sq n.toNat : Int) < 0 + 2 ^ b.toNat := by
  rw [Int.zero_add]
  refine sideNo h0 (Int.pow_nonneg (by decide)) fun q => h ?_
  have : ((2 : Int) ^ b.toNat) ^ Int.toNat 2 = 4 ^ b.toNat := by
    show ((2 : Int) ^ b.toNat) ^ 2 = 4 ^ b.toNat
    rw [← Int.pow_mul, Nat.mul_comm, Int.pow_mul]
    rfl
  rw [← this]
  exact q
theorem p2half {b : Int} (h : 0 < b) : (2 : Int) ^ b.toNat = 2 ^ (b - 1).toNat + 2 ^ (b - 1).toNat := by
  have : b.toNat = (b - 1).toNat + 1 := by omega
  rw [this, Int.pow_succ]
  omega
theorem sqLe {n : Int} (h0 : 0 ≤ n) : (sq n.toNat : Int) ≤ n := by
  have := sq_le n.toNat
  omega
section
variable {w : World} {p : Program} {loose : List Str} {mean : ExcName → Option Value} {mg mb : Str → Option Value} {base : Heap} {l news : List (Addr × Obj)} {D : Addr}
theorem side_spec {n : Int} {tn : Tok} (h0 : 0 ≤ n) (hn : n.natAbs < sml) : SpecW w p loose mean mg mb 5 base news 169 [.int n tn] (fun l v => ∃ t, v = .int (sq n.toNat) t) False := by
  refine' enterN [("n", .int n tn)] [("n", .int n tn)] ?hrb ?ho ?hcd ?hbind ?hloc ?hco ?hgen ?hk ?hcell ?_
  walk_at "m_enter"
  have hbig := big_ge
  have hsml := sml_ge
  have hle := sqLe h0
  k_with "exec While Compare cons nil" => (first
    | (refine' while_st (σ := Int × Tok) (fun c => [("bits", .int c.1 c.2), ("n", .int n tn)]) (fun c => 0 ≤ c.1 ∧ c.1 ≤ 2001) (fun c => (2001 - c.1).toNat) (0, _) ?F ?N ?e ?i ?turn ?hE; (case F => assumption); (case N => assumption); (case e => walk_at "m_map"); (case i => (dsimp only; omega)); (case hE => exact PassesOwn.never); (case' turn => (rintro ⟨x, tx⟩ h tk G hi F' N' hG; dsimp only at hi F' hG)))
    | (refine' while_st (σ := Int × Int × Tok × Tok) (fun c => [("side", .int c.2.1 c.2.2.1), ("bits", .int c.1 c.2.2.2), ("n", .int n tn)]) (fun c => 0 ≤ c.1 ∧ c.1 ≤ 2001 ∧ 0 ≤ c.2.1 ∧ c.2.1 ≤ (sq n.toNat : Int) ∧ (sq n.toNat : Int) < c.2.1 + 2 ^ c.1.toNat) (fun c => c.1.toNat) (_, 0, _, _) ?F3 ?N3 ?e3 ?i3 ?turn3 ?hE3; (case F3 => assumption); (case N3 => assumption); (case e3 => walk_at "m_map"); (case i3 => (dsimp only; refine ⟨by omega, by omega, by omega, by omega, sideTop h0 (by assumption)⟩)); (case hE3 => exact PassesOwn.never); (case' turn3 => (rintro ⟨x, y, tx, ty⟩ h tk G hi F' N' hG; dsimp only at hi F' hG))))
  k_with "ar" => (have q2 := p2 (b := x - 1) (by omega); omega)
  walk_at "m_steps"
  · have q3 := p4 hi.1 hn (by assumption)
    refine' hG (x + 1, _) _ _ ?i1 ?lt1 (frMap ?F1 ?e1) ?N1
    walk_at "m_turn1"
    · dsimp only; omega
    · dsimp only; omega
  · obtain ⟨i1, i2, i3, i4, i5⟩ := hi
    have q2 := p2 (b := x - 1) (by omega)
    have q3 := p2half (b := x) (by omega)
    have q4 := sideUp (u := y + 2 ^ (x - 1).toNat) h0 (by omega) (by assumption)
    refine' hG (x - 1, y + 2 ^ (x - 1).toNat, _, _) _ _ ?i2 ?lt2 (frMap ?F2 ?e2) ?N2
    walk_at "m_turn2"
    · dsimp only; exact ⟨by omega, by omega, by omega, by omega, by omega⟩
    · dsimp only; omega
  · obtain ⟨i1, i2, i3, i4, i5⟩ := hi
    have q2 := p2 (b := x - 1) (by omega)
    have q3 := p2half (b := x) (by omega)
    have q4 := sideNo (u := y + 2 ^ (x - 1).toNat) h0 (by omega) (by assumption)
    refine' hG (x - 1, y, _, _) _ _ ?i4 ?lt4 (frMap ?F1 ?e1) ?N1
    walk_at "m_turn1"
    · dsimp only; exact ⟨by omega, by omega, by omega, by omega, by omega⟩
    · dsimp only; omega
  · obtain ⟨i1, i2, i3, i4, i5⟩ := hi
    obtain rfl : x = 0 := by omega
    have : (2 : Int) ^ Int.toNat 0 = 1 := rfl
    walk_at "m_ret"
    exact ⟨_, by rw [show y = (sq n.toNat : Int) from by omega]⟩
end
local macro_rules | `(tactic| walk_at "call ref") => `(tactic| ((with_reducible show wpAny _ _ (call (Value.ref 169) [Value.int _ _]) _ _ _); k_dflt (refine' Spec.useR (side_spec ?ga ?gb) ?hA ?hh ?hr ?he ?C ?F ?N ?_ ?exc ?hck; (case ga => walk_at "m_ar"); (case gb => walk_at "m_ar"); walk_at "m_used"); walk_at "m_got"))
section
variable {w : World} {p : Program} {loose : List Str} {mean : ExcName → Option Value} {mg mb : Str → Option Value} {base : Heap} {l news : List (Addr × Obj)} {D H : Addr}
theorem part_spec {v many : Int} {tv tm : Tok} {n : Nat} (ne : ∀ q ∈ news, q.1 ≠ H) (km : 0 < many) (fm : many.natAbs < big) :
    SpecG PySem.Challenge.pw_ov0047_01 w (hd.heap_1 w.params) p loose mean mg mb 3 base ((H, listOf #[.int v tv] n) :: news) 155 [.ref H, .int many tm] (fun l r => ∃ t t' n', r = .int (v % many) t ∧ l = (H, listOf #[.int (v / many) t'] n') :: news) := by
  refine' enterG [("heap", .ref H), ("many", .int many tm)] [("many", .int many tm), ("heap", .ref H)] ?hrb ?ho ?hcd ?hbind ?hloc ?hco ?hgen ?hk ?hcell ?_
  walk_at "m_enter"
  have e1 : Int.fmod v many = v % many := Int.fmod_eq_emod_of_nonneg _ (by omega)
  have e2 : Int.fdiv v many = v / many := Int.fdiv_eq_ediv_of_nonneg _ (by omega)
  walk_at "m_steps"
  (try dsimp only)
  refine' ret _ _ _ _ _ _ ?C1 ?F1 ?N1 ?_
  (case F1 => with_reducible assumption); (case C1 => with_reducible assumption); (case N1 => with_reducible assumption)
  rw [← e1, ← e2]
  exact ⟨_, _, _, rfl, rfl⟩
end
local macro_rules | `(tactic| walk_at "call ref") => `(tactic| ((with_reducible show wpAny _ _ (call (Value.ref 155) [Value.ref _, Value.int _ _]) _ _ _); k_dflt (refine' SpecG.useR (part_spec ?ne ?km ?fm) ?hA ?hh ?hr ?he ?C ?F ?N ?_ ?hck; walk_at "m_fcn"; (case hA => with_reducible assumption); (case hck => exact rfl); (case hh => with_reducible assumption); walk_at "m_du"; (case ne => with_reducible assumption); (case km => walk_at "m_ar"); (case fm => walk_at "m_ar")); intro v' h' news' g' tk' C' F' N' ok'; (have X' := Cx.X C'); (have T' := Cx.T C'); (try dsimp only at ok'); (rcases ok' with ⟨t1', t2', n1', e1', e2'⟩); subst e1'; subst e2'; (try dsimp only)))
theorem ten240 : (10 : Nat) ^ 240 ≤ big := Nat.le_trans (Nat.pow_le_pow_left (show 10 ≤ 2 ^ 4 by decide) 240) (by rw [← Nat.pow_mul]; exact pow_le_big (by decide))
section
variable {prog : Program} {w : World} {K : Frag} {p : Program} {loose : List Str} {mean : ExcName → Option Value} {mg mb : Str → Option Value} {A A₀ : Around} {E : Value → Shared → Prop} {s : Shared} {base g0 h₀ : Heap} {outer : List Env} {L a : Addr} {news : List (Addr × Obj)} {cn : Str} {cs : Scope} {ccd : Value} {Q : Flow → Shared → Prop}
theorem heapLoop {px : Pos} {body : List Stmt} {D H S : Addr} {ws : List Value} {ms : List Int} {n0 : Nat} {t0 : Tok} (hh : A.handled = none) (C : Cx K p loose mean mg mb A₀ base outer g0 h₀) (F : Fr h₀ L s.heap (mapOf [("heap", .ref H), ("script", .ref S)]))
    (N : News h₀ L s.heap ((D, listOf ws.toArray 0) :: (H, listOf #[.int 0 t0] n0) :: news)) (hi : IntsAre ws ms) (lH : ∀ q ∈ news, q.1 < H) (lD : ∀ q ∈ (H, listOf #[.int 0 t0] n0) :: news, q.1 < D)
    (turn : ∀ (c : Int) (t : Tok) (u : Str → Option Value) g h tk v tv n rest, (∀ q ∈ rest, q.1 ≠ H) → 0 ≤ v → v < ((10 ^ 240 : Nat) : Int) → Cx K p loose mean mg mb A₀ base outer g0 g → Fr g L h (fun y => if y = "cell" then some (.int c t) else mix ["cell"] u [("heap", .ref H), ("script", .ref S)] y) → News g L h ((H, listOf #[.int v tv] n) :: rest) →
      ∀ G : Flow → Shared → Prop, (∀ g' h' tk' m' v' t' n', Cx K p loose mean mg mb A₀ base outer g0 g' → Fr g' L h' m' → News g' L h' ((H, listOf #[.int v' t'] n') :: rest) → Mixed ["cell"] [("heap", .ref H), ("script", .ref S)] m' → 0 ≤ v' → v' < ((10 ^ 240 : Nat) : Int) → G .next { s with heap := h', toks := tk' }) →
      wpAny (model prog w) A (execs body (envOf cn cs L a ccd)) G (fun _ _ => False) { s with heap := h, toks := tk })
    (done : ∀ g h tk m v t n, Cx K p loose mean mg mb A₀ base outer g0 g → Fr g L h (mix ["cell"] m [("heap", .ref H), ("script", .ref S)]) → News g L h ((H, listOf #[.int v t] n) :: news) → (∀ q ∈ news, q.1 ≠ H) → Q .next { s with heap := h, toks := tk })
    (hk : cs.kind = .function) (hlo : (envOf cn cs L a ccd).kindOf "cell" = some .local) :
    wpAny (model prog w) A (pyIter (.ref D)) (fun it s₂ => LoopCx prog w A (envOf cn cs L a ccd) "cell" px body Q E it s₂) E s := by
  have hDH : H < D := lD _ (.head _)
  refine loopList ["cell"] [("heap", .ref H), ("script", .ref S)] (fun _ n₁ => ∃ v t n, n₁ = (H, listOf #[.int v t] n) :: news ∧ 0 ≤ v ∧ v < ((10 ^ 240 : Nat) : Int)) hh C F N Mixed.of ⟨0, t0, n0, rfl, Int.le_refl _, Int.natCast_pos.mpr (Nat.pow_pos (by decide))⟩ (by decide) (fun q hq => Nat.ne_of_lt (lD q hq)) ?_ ?_ hk hlo
  · rintro i v g h tk m news' I oI hv C₁ F₁ N₁ ⟨v1, t1, n1, rfl, b1, b2⟩ ne hID G hG _
    obtain ⟨t, hx⟩ : ∃ c t, v = .int c t := by
      have hl : i < ms.length := by
        rw [← hi.length]
        exact (List.getElem?_eq_some_iff.mp hv).1
      obtain ⟨t, hx⟩ := hi.get i ms[i] (by simp [hl])
      rw [hx] at hv
      exact ⟨_, t, (Option.some.inj hv).symm⟩
    obtain ⟨t', rfl⟩ := hx
    refine turn t t' m g h tk v1 t1 n1 (news ++ [(I, oI), (D, listOf ws.toArray 0)]) ?_ b1 b2 C₁ F₁ N₁ G ?_
    · intro q hq
      rcases List.mem_append.mp hq with hq | hq
      · exact Nat.ne_of_lt (lH q hq)
      · rcases List.mem_cons.mp hq with rfl | hq
        · exact fun z => (ne _ (.head _)).2 z.symm
        · rw [List.mem_singleton.mp hq]; exact Nat.ne_of_gt hDH
    · intro g' h' tk' m' v' t' n' C' F' N' hm' c1 c2
      refine hG g' h' tk' m' ((H, listOf #[.int v' t'] n') :: news) C' F' N' hm' ⟨v', t', n', rfl, c1, c2⟩ ?_
      intro q hq
      rcases List.mem_cons.mp hq with rfl | hq
      · exact ⟨Nat.ne_of_lt hDH, (ne _ (.head _)).2⟩
      · exact ne q (.tail _ hq)
  · rintro g h tk m n₁ C₁ F₁ N₁ ⟨v1, t1, n1, rfl, b1, b2⟩
    exact done g h tk m v1 t1 n1 C₁ F₁ N₁ fun q hq => Nat.ne_of_lt (lH q hq)
end
section
variable {w : World} {p : Program} {loose : List Str} {mean : ExcName → Option Value} {mg mb : Str → Option Value} {base : Heap} {l news : List (Addr × Obj)} {D S : Addr}
local macro_rules | `(tactic| walk_at "subscriptTail Name Slice ref ref") => `(tactic| (k_dflt (refine' kmk_slice_ints ?F ?N ?l ?p ?q $(Lean.mkIdent `hI):ident ?m ?c ?_ ?s ?t $(Lean.mkIdent `hsz):ident; (case F => with_reducible assumption); (case N => with_reducible assumption); (case l => exact Heap.IsList.at $(Lean.mkIdent `hl):ident fun o e => Fr.keep (by with_reducible assumption) _ o e); (case p => exact .none); (case q => exact .int _ _); (case m => exact kmk_upto $(Lean.mkIdent `hI):ident (by decide)); (case c => exact rfl); (case s => with_unfolding_all rfl); (case t => (intro _; with_unfolding_all rfl))); intro D' ws' h' F' N' l1' hI' _ _))
theorem heap_spec {vs : List Value} {ns : List Int} (hL : base.IsList S vs.toArray) (hI : IntsAre vs ns) (hsz : vs.toArray.size ≤ sizeLine) :
    SpecG PySem.Challenge.pw_ov0047_01 w (hd.heap_1 w.params) p loose mean mg mb 5 base news 148 [.ref S] (fun l r => ∃ H v t n, r = .ref H ∧ l = (H, listOf #[.int v t] n) :: news ∧ (∀ q ∈ news, q.1 ≠ H)) := by
  refine' enterG [("script", .ref S)] [("script", .ref S)] ?hrb ?ho ?hcd ?hbind ?hloc ?hco ?hgen ?hk ?hcell ?_
  walk_at "m_enter"
  have hl : g.IsList S vs.toArray := hL.at fun o e => C.B.stays S o e
  have hbig := ten240
  k_with "pyIter ref" => (k_dflt (refine' heapLoop (S := S) ?hh ?C ?F ?N ?i ?lH ?lD ?turn ?done ?hk ?hlo; (case N => with_reducible assumption); (case hh => with_reducible assumption); (case C => with_reducible assumption); (case F => (refine' frMap (by with_reducible assumption) ?e9; (case e9 => walk_at "m_map"))); (case i => with_reducible assumption); (case lH => with_reducible assumption); (case lD => with_reducible assumption); (case hk => exact rfl); (case hlo => exact rfl); (case' done => (intro g' h' tk m v t n C' F' N' ne'; have X' := Cx.X C'; have T' := Cx.T C')); rotate_left; (case' turn => (intro c t u g' h' tk v tv n rest ne' b1 b2 C' F' N' G hG; have X' := Cx.X C'; have T' := Cx.T C'; dsimp only))))
  walk_at "m_steps"
  · refine' hG _ _ _ _ _ _ _ ?C1 ?F1 ?N1 ?m1 ?b1 ?b2
    (case F1 => with_reducible assumption)
    (case C1 => with_reducible assumption)
    (case N1 => with_reducible assumption)
    (case m1 => exact Mixed.step (by decide) Mixed.mix)
    (case b1 => (rw [Int.fmod_eq_emod_of_nonneg _ (by decide +kernel)]; exact Int.emod_nonneg _ (by decide +kernel)))
    (case b2 => (rw [Int.fmod_eq_emod_of_nonneg _ (by decide +kernel)]; exact Int.emod_lt_of_pos _ (by decide +kernel)))
  · (try dsimp only)
    refine' ret _ _ _ _ _ _ ?C2 ?F2 ?N2 ?_
    (case F2 => with_reducible assumption); (case C2 => with_reducible assumption); (case N2 => with_reducible assumption)
    exact ⟨_, _, _, _, rfl, rfl, by assumption⟩
end
theorem e20 : (10 : Int) ^ Int.toNat 20 = 100000000000000000000 := by decide +kernel
theorem e15 : (10 : Int) ^ Int.toNat 15 = 1000000000000000 := by decide +kernel
theorem big100 : 1267650600228229401496703205376 ≤ big := pow_le_big (k := 100) (by decide)
/-- a fraction of at most k bits -/
def Sz (q : Rat) (k : Nat) : Prop := q.num.natAbs < 2 ^ k ∧ q.den < 2 ^ k
theorem Sz.neg {q : Rat} {k : Nat} (h : Sz q k) : Sz (-q) k := by
  unfold Sz at *
  rw [Rat.neg_num, Rat.neg_den, Int.natAbs_neg]
  exact h
theorem mkSz {n d : Int} (hn : 0 < n) (kd : 0 < d) (h1 : n < 2 ^ 80) (h2 : d < 2 ^ 80) : Rat.divInt n d ≠ 0 ∧ Sz (Rat.divInt n d) 80 := by
  have e := @mk_num n d kd
  refine ⟨?_, ?_⟩
  · obtain ⟨b, rfl⟩ := Int.eq_ofNat_of_zero_le (Int.le_of_lt kd)
    rw [Rat.divInt_ofNat]
    exact (Rat.mkRat_ne_zero (by omega)).mpr (by omega)
  · obtain ⟨a, rfl⟩ := Int.eq_ofNat_of_zero_le (Int.le_of_lt hn)
    obtain ⟨b, rfl⟩ := Int.eq_ofNat_of_zero_le (Int.le_of_lt kd)
    rw [fdiv_nat, fdiv_nat] at e
    have l1 := Nat.div_le_self a (Int.gcd ((a : Int).natAbs : Int) (b : Int))
    have l2 := Nat.div_le_self b (Int.gcd ((a : Int).natAbs : Int) (b : Int))
    obtain ⟨e1, e2⟩ := e
    unfold Sz
    generalize a / (Int.gcd ((a : Int).natAbs : Int) (b : Int)) = u at *
    generalize b / (Int.gcd ((a : Int).natAbs : Int) (b : Int)) = u' at *
    rw [← e1]
    exact ⟨by omega, by omega⟩
def restOf (H : Addr) (l : List (Addr × Obj)) : List (Addr × Obj) := l.filter fun q => decide (q.1 ≠ H)
theorem restOf_ne {H : Addr} {l : List (Addr × Obj)} : ∀ q ∈ restOf H l, q.1 ≠ H := fun q hq => by simpa using (List.mem_filter.mp hq).2
section
variable {g' h' : Heap} {L H : Addr} {n₂ news : List (Addr × Obj)} {v' : Int} {t' : Tok} {n' : Nat} {base : Heap} {D' : Addr} {a b : Int}
theorem anyEnd (N : News g' L h' n₂) (sub : Sub ((H, listOf #[.int v' t'] n') :: news) n₂) (ne : ∀ q ∈ news, q.1 ≠ H) (x : FA base n₂ D' a b) :
    News g' L h' ((H, listOf #[.int v' t'] n') :: restOf H n₂) ∧ Sub news (restOf H n₂) ∧ FA base (restOf H n₂) D' a b := by
  have hH := N _ (sub _ (.head _))
  refine ⟨fun q hq => ?_, fun q hq => List.mem_filter.mpr ⟨sub _ (.tail _ hq), by simpa using ne q hq⟩, ?_⟩
  · rcases List.mem_cons.mp hq with rfl | hq
    · exact hH
    · exact N q (List.mem_filter.mp hq).1
  · obtain ⟨o, ta, tb, n, hc, hd, hp⟩ := x
    refine ⟨o, ta, tb, n, hc, hd, hp.imp (fun q => List.mem_filter.mpr ⟨q, ?_⟩) id⟩
    have h1 := (N _ q).1
    have h2 := hH.1
    simp only [decide_eq_true_eq]
    intro z
    dsimp only at h1 h2
    rw [z, h2] at h1
    rw [← Option.some.inj h1] at hc
    exact absurd (Value.type.inj hc) (by decide)
end
section
variable {w : World} {p : Program} {loose : List Str} {mean : ExcName → Option Value} {mg mb : Str → Option Value} {base : Heap} {l news : List (Addr × Obj)} {D H : Addr}
theorem any_spec {v : Int} {tv : Tok} {n : Nat} (ne : ∀ q ∈ news, q.1 ≠ H) :
    SpecG PySem.Challenge.pw_ov0047_01 w (hd.heap_1 w.params) p loose mean mg mb 9 base ((H, listOf #[.int v tv] n) :: news) 176 [.ref H]
      (fun l r => ∃ q : Rat, ∃ D' v' t' n' rest, r = .ref D' ∧ q ≠ 0 ∧ Sz q 80 ∧ l = (H, listOf #[.int v' t'] n') :: rest ∧ (∀ q ∈ rest, q.1 ≠ H) ∧ Sub news rest ∧ FA base rest D' q.num q.den) := by
  refine' enterG [("heap", .ref H)] [("heap", .ref H)] ?hrb ?ho ?hcd ?hbind ?hloc ?hco ?hgen ?hk ?hcell ?_
  walk_at "m_enter"
  have hb := big100
  have h20 := e20
  have h15 := e15
  k_with "ar" => (first | (simp only [e20, e15] at *; omega))
  walk_at "m_steps"
  all_goals (try dsimp only)
  all_goals first | (exfalso; omega) | skip
  all_goals (
    first
    | (obtain ⟨a1, a2, a3⟩ := anyEnd (H := H) (news := news) (by with_reducible assumption) (by walk_at "m_sub") ne (by with_reducible assumption))
    | (obtain ⟨a1, a2, a3⟩ := anyEnd (H := H) (news := news) (by with_reducible assumption) (by walk_at "m_sub") ne (by walk_at "m_fam")))
  all_goals (refine ret _ _ _ _ _ _ (by with_reducible assumption) (by with_reducible assumption) a1 ?_)
  all_goals (simp only [e20, e15] at *)
  all_goals first
    | (obtain ⟨z1, z2⟩ := mkSz (n := (1 + v / 5 % 400) * 100000000000000000000 + v / 5 / 400 / 60 % 100000000000000000000) (d := 1 + v / 5 / 400 % 60) (by omega) (by omega) (by omega) (by omega); exact ⟨_, _, _, _, _, _, rfl, z1, z2, rfl, restOf_ne, a2, a3⟩)
    | (obtain ⟨z1, z2⟩ := mkSz (n := 1 + v / 5 % 400) (d := (1 + v / 5 / 400 % 60) * 1000000000000000 + 1) (by omega) (by omega) (by omega) (by omega); exact ⟨_, _, _, _, _, _, rfl, z1, z2, rfl, restOf_ne, a2, a3⟩)
    | (obtain ⟨z1, z2⟩ := mkSz (n := 1 + v / 5 % 400) (d := 1 + v / 5 / 400 % 60) (by omega) (by omega) (by omega) (by omega); exact ⟨_, _, _, _, _, _, rfl, z1, z2, rfl, restOf_ne, a2, a3⟩)
    | (obtain ⟨z1, z2⟩ := mkSz (n := 1 + v / 5 % 400) (d := 1 + v / 5 / 400 % 60) (by omega) (by omega) (by omega) (by omega); refine ⟨-(Rat.divInt (1 + v / 5 % 400) (1 + v / 5 / 400 % 60)), _, _, _, _, _, rfl, fun z => z1 (by rw [← Rat.neg_neg (Rat.divInt _ _), z]; rfl), z2.neg, rfl, restOf_ne, a2, ?_⟩; rw [Rat.neg_num, Rat.neg_den]; exact a3)
end
/-- what the telling helpers hand back -/
def Told (base : Heap) (l : List (Addr × Obj)) (o : Option (Int × Int)) (v : Value) : Prop :=
  (∃ r D', o = some r ∧ v = .ref D' ∧ FA base l D' r.1 r.2) ∨ (o = none ∧ ∃ t, v = .str "result is not exact" t)
section
variable {w : World} {p : Program} {loose : List Str} {mean : ExcName → Option Value} {mg mb : Str → Option Value} {base : Heap} {l news : List (Addr × Obj)} {D D2 : Addr}
theorem rootOf_spec {a b : Int} {v : Value} (x : FA base news D a b) (h0 : 0 ≤ b) (fa : a.natAbs < sml) (fb : b.natAbs < sml) :
    SpecW w p loose mean mg mb 9 base news 190 [.ref D, v] (fun l r => Told base l (rootF a b) r) False := by
  refine' enterN [("x", .ref D), ("spare", v)] [("spare", v), ("x", .ref D)] ?hrb ?ho ?hcd ?hbind ?hloc ?hco ?hgen ?hk ?hcell ?_
  walk_at "m_enter"
  walk_at "m_steps"
  all_goals walk_at "m_ret"
  · exact .inl ⟨_, _, by assumption, rfl, by walk_at "m_fa"⟩
  · exact .inr ⟨by assumption, _, rfl⟩
local macro_rules | `(tactic| walk_at "call ref") => `(tactic| ((with_reducible show wpAny _ _ (call (Value.ref 190) [Value.ref _, _]) _ _ _); k_dflt (refine' Spec.useR (rootOf_spec ?x ?g1 ?g2 ?g3) ?hA ?hh ?hr ?he ?C ?F ?N ?_ ?exc ?hck; walk_at "m_used"; (case x => walk_at "m_fam"); (case g1 => walk_at "m_ar"); (case g2 => walk_at "m_ar"); (case g3 => walk_at "m_ar")); intro v' h' news' g' tk' sub' C' F' N' ok'; (have X' := Cx.X C'); (have T' := Cx.T C'); (try dsimp only)))
theorem toldRoot_spec {a b : Int} {v : Value} (x : FA base news D a b) (h0 : 0 ≤ b) (fa : a.natAbs < sml) (fb : b.natAbs < sml) :
    SpecW w p loose mean mg mb 11 base news 183 [.ref 190, .ref D, v] (fun l r => Told base l (rootF a b) r) False := by
  refine' enterN [("deed", .ref 190), ("x", .ref D), ("y", v)] [("y", v), ("x", .ref D), ("deed", .ref 190)] ?hrb ?ho ?hcd ?hbind ?hloc ?hco ?hgen ?hk ?hcell ?_
  walk_at "m_enter"
  walk_at "m_steps"
  all_goals walk_at "m_ret"
  all_goals assumption
theorem toldPower_spec {a b c d : Int} (x : FA base news D a b) (y : FA base news D2 c d) (h0 : 0 ≤ b) (fa : a.natAbs < sml) (fb : b.natAbs < sml) (sd : Sd a b c d) :
    SpecW w p loose mean mg mb 14 base news 183 [.ref 120, .ref D, .ref D2] (fun l r => Told base l (powF a b c d) r) False := by
  refine' enterN [("deed", .ref 120), ("x", .ref D), ("y", .ref D2)] [("y", .ref D2), ("x", .ref D), ("deed", .ref 120)] ?hrb ?ho ?hcd ?hbind ?hloc ?hco ?hgen ?hk ?hcell ?_
  walk_at "m_enter"
  walk_at "m_steps"
  all_goals walk_at "m_ret"
  · exact .inl ⟨_, _, by assumption, rfl, by walk_at "m_fa"⟩
  · exact .inr ⟨by assumption, _, rfl⟩
end
/-- the pair that bears a fraction -/
def fr2 (q : Rat) : Int × Int := (q.num, (q.den : Int))
theorem mkF_q (n d : Int) : mkF n d = fr2 (Rat.divInt n d) := rfl
theorem denPos (q : Rat) : (0 : Int) < (q.den : Int) := Int.natCast_pos.mpr q.den_pos
theorem mkMul (a b : Rat) : mkF (a.num * b.num) ((a.den : Int) * (b.den : Int)) = fr2 (a * b) := by
  rw [mkF_q, ← Rat.divInt_mul_divInt, Rat.num_divInt_den, Rat.num_divInt_den]
theorem mkDiv (a b : Rat) : mkF (a.num * (b.den : Int)) ((a.den : Int) * b.num) = fr2 (a / b) := by
  rw [mkF_q, ← Rat.divInt_mul_divInt, Rat.num_divInt_den, ← Rat.inv_divInt, Rat.num_divInt_den, Rat.div_def]
theorem mkInv (a : Rat) : mkF (a.den : Int) a.num = fr2 a⁻¹ := by
  rw [mkF_q, ← Rat.inv_divInt, Rat.num_divInt_den]
theorem numNe {q : Rat} (h : q ≠ 0) : q.num ≠ 0 := fun z => h (Rat.num_eq_zero.mp z)

theorem ratPowMul (q : Rat) (a b : Nat) : q ^ (a * b) = (q ^ a) ^ b := by
  induction b with
  | zero => rw [Nat.mul_zero, Rat.pow_zero, Rat.pow_zero]
  | succ b ih => rw [Nat.mul_succ, Lean.Grind.Semiring.pow_add, ih, Rat.pow_succ]
theorem ratPowNe {q : Rat} (h : q ≠ 0) (n : Nat) : q ^ n ≠ 0 := by
  intro z
  have : (q ^ n).num = 0 := by rw [z]; rfl
  rw [Rat.num_pow] at this
  exact Int.pow_ne_zero (numNe h) this
theorem invNe {q : Rat} (h : q ≠ 0) : q⁻¹ ≠ 0 := by
  intro z
  have := Rat.mul_inv_cancel q h
  rw [z, Rat.mul_zero] at this
  exact absurd this (by decide)
theorem mulNe {a b : Rat} (ha : a ≠ 0) (hb : b ≠ 0) : a * b ≠ 0 := fun z => (Rat.mul_eq_zero.mp z).elim ha hb
theorem intCases (n : Int) : (∃ k : Nat, n = (k : Int)) ∨ ∃ k : Nat, n = -(k : Int) := by
  rcases Int.le_total 0 n with h | h
  · exact .inl ⟨n.toNat, by omega⟩
  · exact .inr ⟨(-n).toNat, by omega⟩
theorem invMul (a b : Rat) : (a * b)⁻¹ = a⁻¹ * b⁻¹ := by rw [Rat.inv_mul_rev, Rat.mul_comm]
theorem inv1 : (1 : Rat)⁻¹ = 1 := Rat.inv_eq_of_mul_eq_one (Rat.one_mul 1)
theorem mm1 : (-1 : Rat) * (-1) = 1 := by rw [Rat.neg_mul, Rat.one_mul, Rat.neg_neg]
theorem invm1 : (-1 : Rat)⁻¹ = -1 := Rat.inv_eq_of_mul_eq_one mm1
theorem invPow (a : Rat) (k : Nat) : (a⁻¹) ^ k = (a ^ k)⁻¹ := by
  induction k with
  | zero => rw [Rat.pow_zero, Rat.pow_zero, inv1]
  | succ k ih => rw [Rat.pow_succ, ih, Rat.pow_succ, invMul]
theorem mulZ (a b : Rat) (n : Int) : (a * b) ^ n = a ^ n * b ^ n := by
  rcases intCases n with ⟨k, rfl⟩ | ⟨k, rfl⟩
  · rw [Rat.zpow_natCast, Rat.zpow_natCast, Rat.zpow_natCast, Lean.Grind.CommSemiring.mul_pow]
  · rw [Rat.zpow_neg, Rat.zpow_neg, Rat.zpow_neg, Rat.zpow_natCast, Rat.zpow_natCast, Rat.zpow_natCast, Lean.Grind.CommSemiring.mul_pow, invMul]
theorem invZ (a : Rat) (n : Int) : (a⁻¹) ^ n = (a ^ n)⁻¹ := by
  rcases intCases n with ⟨k, rfl⟩ | ⟨k, rfl⟩
  · rw [Rat.zpow_natCast, Rat.zpow_natCast, invPow]
  · rw [Rat.zpow_neg, Rat.zpow_neg, Rat.zpow_natCast, Rat.zpow_natCast, invPow]
theorem divZ (a b : Rat) (n : Int) : (a / b) ^ n = a ^ n / b ^ n := by rw [Rat.div_def, Rat.div_def, mulZ, invZ]
theorem powZ (a : Rat) (m n : Int) : (a ^ m) ^ n = a ^ (m * n) := by
  rcases intCases m with ⟨i, rfl⟩ | ⟨i, rfl⟩ <;> rcases intCases n with ⟨j, rfl⟩ | ⟨j, rfl⟩
  · rw [← Int.natCast_mul, Rat.zpow_natCast, Rat.zpow_natCast, Rat.zpow_natCast, ratPowMul]
  · rw [Int.mul_neg, ← Int.natCast_mul, Rat.zpow_neg, Rat.zpow_neg, Rat.zpow_natCast, Rat.zpow_natCast, Rat.zpow_natCast, ratPowMul]
  · rw [Int.neg_mul, ← Int.natCast_mul, Rat.zpow_neg, Rat.zpow_neg, Rat.zpow_natCast, Rat.zpow_natCast, Rat.zpow_natCast, ratPowMul, invPow]
  · rw [Int.neg_mul, Int.mul_neg, Int.neg_neg, ← Int.natCast_mul, Rat.zpow_neg, Rat.zpow_neg, Rat.zpow_natCast, Rat.zpow_natCast, Rat.zpow_natCast, ratPowMul, invPow, Rat.inv_inv]
theorem oneZ (n : Int) : (1 : Rat) ^ n = 1 := by
  have h : ∀ k : Nat, (1 : Rat) ^ k = 1 := fun k => by
    induction k with
    | zero => rfl
    | succ k ih => rw [Rat.pow_succ, ih, Rat.one_mul]
  rcases intCases n with ⟨k, rfl⟩ | ⟨k, rfl⟩
  · rw [Rat.zpow_natCast, h]
  · rw [Rat.zpow_neg, Rat.zpow_natCast, h, inv1]
theorem negZ (n : Int) : (-1 : Rat) ^ n = if n % 2 = 0 then 1 else -1 := by
  have h : ∀ k : Nat, (-1 : Rat) ^ k = if k % 2 = 0 then 1 else -1 := fun k => by
    induction k with
    | zero => rfl
    | succ k ih =>
      rw [Rat.pow_succ, ih]
      by_cases e : k % 2 = 0
      · rw [if_pos e, if_neg (by omega), Rat.one_mul]
      · rw [if_neg e, if_pos (by omega), mm1]
  rcases intCases n with ⟨k, rfl⟩ | ⟨k, rfl⟩
  · rw [Rat.zpow_natCast, h]
    by_cases e : k % 2 = 0
    · rw [if_pos e, if_pos (by omega)]
    · rw [if_neg e, if_neg (by omega)]
  · rw [Rat.zpow_neg, Rat.zpow_natCast, h]
    by_cases e : k % 2 = 0
    · rw [if_pos e, if_pos (by omega), inv1]
    · rw [if_neg e, if_neg (by omega), invm1]
theorem negQZ (q : Rat) (n : Int) : (-q) ^ n = if n % 2 = 0 then q ^ n else -(q ^ n) := by
  have : -q = (-1) * q := by rw [Rat.neg_mul, Rat.one_mul]
  rw [this, mulZ, negZ]
  by_cases e : n % 2 = 0
  · rw [if_pos e, if_pos e, Rat.one_mul]
  · rw [if_neg e, if_neg e, Rat.neg_mul, Rat.one_mul]
theorem isOne {q : Rat} : (q.num = 1 ∧ (q.den : Int) = 1) ↔ q = 1 := by
  constructor
  · rintro ⟨a, b⟩
    exact Rat.ext a (by have : q.den = 1 := by omega
                        rw [this]; rfl)
  · rintro rfl
    exact ⟨rfl, rfl⟩
theorem isNeg {q : Rat} : (q.num = -1 ∧ (q.den : Int) = 1) ↔ q = -1 := by
  constructor
  · rintro ⟨a, b⟩
    exact Rat.ext a (by have : q.den = 1 := by omega
                        rw [this]; rfl)
  · rintro rfl
    exact ⟨rfl, rfl⟩
theorem wholeQ {q : Rat} (hq : q ≠ 0) {n : Int} (hn : n.natAbs ≤ 4096) : wholeF q.num q.den n = some (fr2 (q ^ n)) := by
  unfold wholeF
  by_cases h1 : q = 1
  · rw [if_pos (isOne.mpr h1), h1, oneZ]; rfl
  rw [if_neg fun z => h1 (isOne.mp z)]
  by_cases h2 : q = -1
  · rw [if_pos (isNeg.mpr h2), h2, negZ]
    by_cases e : n % 2 = 0
    · rw [if_pos e, if_pos e]; rfl
    · rw [if_neg e, if_neg e]; rfl
  rw [if_neg fun z => h2 (isNeg.mp z), if_neg (by omega)]
  by_cases h3 : 0 ≤ n
  · rw [if_pos h3]
    obtain ⟨k, rfl⟩ := Int.eq_ofNat_of_zero_le h3
    rw [Rat.zpow_natCast, Int.toNat_natCast]
    unfold fr2
    rw [Rat.num_pow, Rat.den_pow, Int.natCast_pow]
  · rw [if_neg h3]
    obtain ⟨k, hk⟩ : ∃ k : Nat, 0 - n = (k : Int) := ⟨(0 - n).toNat, by omega⟩
    have e : n = -(k : Int) := by omega
    rw [hk, e, Int.toNat_natCast, Rat.zpow_neg, Rat.zpow_natCast, ← Rat.num_pow, ← Int.natCast_pow, ← Rat.den_pow, mkInv]
theorem powQ {q : Rat} (hq : q ≠ 0) {n : Int} (hn : n.natAbs ≤ 4096) : powF q.num q.den n 1 = some (fr2 (q ^ n)) := by
  have hd := denPos q
  have hq' := numNe hq
  unfold powF
  by_cases h1 : (q.num = 1 ∧ (q.den : Int) = 1) ∨ (n = 0 ∧ (1 : Int) = 1)
  · rw [if_pos h1]
    rcases h1 with h1 | ⟨rfl, -⟩
    · rw [isOne.mp h1, oneZ]; rfl
    · rw [Rat.zpow_zero]; rfl
  · rw [if_neg h1, if_neg (by omega), if_neg (by omega), if_neg (by omega), if_neg (by omega), if_pos rfl, wholeQ hq hn]
theorem Spec.mono {prog : Program} {w : World} {K : Frag} {p : Program} {loose : List Str} {mean : ExcName → Option Value} {mg mb : Str → Option Value} {CE : Addr} {k : Nat} {base : Heap} {news : List (Addr × Obj)} {f : Addr} {vs : List Value}
    {OK OK' : List (Addr × Obj) → Value → Prop} {ER ER' : Prop} (S : Spec prog w K p loose mean mg mb CE k base news f vs OK ER) (h : ∀ n v, OK n v → OK' n v) (h' : ER → ER') : Spec prog w K p loose mean mg mb CE k base news f vs OK' ER' :=
  fun A A₀ outer cn cs a L ccd g0 h₀ m s Q E hA hck hh hd hu C F N ret exc => S A A₀ outer cn cs a L ccd g0 h₀ m s Q E hA hck hh hd hu C F N (fun v h₁ n h' tk s' c f n' ok => ret v h₁ n h' tk s' c f n' (h _ _ ok)) (fun e => exc (h' e))
/-- not nought, of at most k bits -/
def B (k : Nat) (q : Rat) : Prop := q ≠ 0 ∧ q.num.natAbs ≤ 2 ^ k ∧ q.den ≤ 2 ^ k
theorem B.of {q : Rat} {k : Nat} (h : q ≠ 0) (z : Sz q k) : B k q := ⟨h, Nat.le_of_lt z.1, Nat.le_of_lt z.2⟩
theorem B.mono {q : Rat} {k j : Nat} (h : B k q) (l : k ≤ j) : B j q :=
  have := Nat.pow_le_pow_right (n := 2) (by decide) l
  ⟨h.1, Nat.le_trans h.2.1 this, Nat.le_trans h.2.2 this⟩
theorem B.mul {a b : Rat} {k j : Nat} (x : B k a) (y : B j b) : B (k + j) (a * b) := by
  refine ⟨mulNe x.1 y.1, ?_, ?_⟩
  · rw [Rat.num_mul, Nat.pow_add]
    refine Nat.le_trans (Int.natAbs_ediv_le_natAbs _ _) ?_
    rw [Int.natAbs_mul]
    exact Nat.mul_le_mul x.2.1 y.2.1
  · rw [Rat.den_mul, Nat.pow_add]
    exact Nat.le_trans (Nat.div_le_self _ _) (Nat.mul_le_mul x.2.2 y.2.2)
theorem B.inv {a : Rat} {k : Nat} (x : B k a) : B k a⁻¹ := by
  refine ⟨invNe x.1, ?_, ?_⟩
  · rw [Rat.num_inv, Int.natAbs_mul, Int.natAbs_natCast]
    have : a.num.sign.natAbs ≤ 1 := by
      rcases Int.lt_trichotomy a.num 0 with h | h | h
      · rw [Int.sign_eq_neg_one_of_neg h]; decide
      · rw [h]; decide
      · rw [Int.sign_eq_one_of_pos h]; decide
    exact Nat.le_trans (Nat.mul_le_mul_right _ this) (by rw [Nat.one_mul]; exact x.2.2)
  · rw [Rat.den_inv, if_neg (numNe x.1)]
    exact x.2.1
theorem B.div {a b : Rat} {k j : Nat} (x : B k a) (y : B j b) : B (k + j) (a / b) := by rw [Rat.div_def]; exact x.mul y.inv
theorem B.neg {a : Rat} {k : Nat} (x : B k a) : B k (-a) := by
  refine ⟨fun z => x.1 (by rw [← Rat.neg_neg a, z]; rfl), ?_, ?_⟩
  · rw [Rat.neg_num, Int.natAbs_neg]; exact x.2.1
  · rw [Rat.neg_den]; exact x.2.2
theorem B.npow {a : Rat} {k : Nat} (x : B k a) (n : Nat) : B (k * n) (a ^ n) := by
  refine ⟨ratPowNe x.1 n, ?_, ?_⟩
  · rw [Rat.num_pow, Int.natAbs_pow, Nat.pow_mul]; exact Nat.pow_le_pow_left x.2.1 n
  · rw [Rat.den_pow, Nat.pow_mul]; exact Nat.pow_le_pow_left x.2.2 n
theorem B.pow {a : Rat} {k : Nat} (x : B k a) {n : Int} {j : Nat} (h : n.natAbs ≤ j) : B (k * j) (a ^ n) := by
  refine B.mono (k := k * n.natAbs) ?_ (Nat.mul_le_mul_left _ h)
  rcases intCases n with ⟨i, rfl⟩ | ⟨i, rfl⟩
  · rw [Rat.zpow_natCast, Int.natAbs_natCast]; exact x.npow i
  · rw [Rat.zpow_neg, Rat.zpow_natCast, Int.natAbs_neg, Int.natAbs_natCast]; exact (x.npow i).inv
theorem sml_gt {k : Nat} (h : k ≤ 3900) : 2 ^ k < sml := by
  rw [sml_is]
  exact Nat.lt_of_le_of_lt (Nat.pow_le_pow_right (by decide) h) (Nat.pow_lt_pow_right (by decide) (by decide))
theorem big_gt {k : Nat} (h : k ≤ 7900) : 2 ^ k < big := by
  rw [big_is]
  exact Nat.lt_of_le_of_lt (Nat.pow_le_pow_right (by decide) h) (Nat.pow_lt_pow_right (by decide) (by decide))
theorem B.sml1 {q : Rat} {k : Nat} (x : B k q) (h : k ≤ 3900) : q.num.natAbs < sml := Nat.lt_of_le_of_lt x.2.1 (sml_gt h)
theorem B.sml2 {q : Rat} {k : Nat} (x : B k q) (h : k ≤ 3900) : (q.den : Int).natAbs < sml := by rw [Int.natAbs_natCast]; exact Nat.lt_of_le_of_lt x.2.2 (sml_gt h)
theorem B.big1 {q : Rat} {k : Nat} (x : B k q) (h : k ≤ 7900) : q.num.natAbs < big := Nat.lt_of_le_of_lt x.2.1 (big_gt h)
theorem B.big2 {q : Rat} {k : Nat} (x : B k q) (h : k ≤ 7900) : (q.den : Int).natAbs < big := by rw [Int.natAbs_natCast]; exact Nat.lt_of_le_of_lt x.2.2 (big_gt h)
theorem prodBig {a b : Int} {k j : Nat} (ha : a.natAbs ≤ 2 ^ k) (hb : b.natAbs ≤ 2 ^ j) (h : k + j ≤ 7900) : (a * b).natAbs < big := by
  rw [Int.natAbs_mul]
  refine Nat.lt_of_le_of_lt (Nat.mul_le_mul ha hb) ?_
  rw [← Nat.pow_add]
  exact big_gt h
theorem powBig {a : Int} {k j : Nat} (ha : a.natAbs ≤ 2 ^ k) (h : k * j ≤ 7900) : (a ^ j).natAbs < big := by
  rw [Int.natAbs_pow]
  refine Nat.lt_of_le_of_lt (Nat.pow_le_pow_left ha j) ?_
  rw [← Nat.pow_mul]
  exact big_gt h
theorem wOK_of {a b n : Int} {k : Nat} (h0 : a ≠ 0) (ha : a.natAbs ≤ 2 ^ k) (hb : b.natAbs ≤ 2 ^ k) (hk : k ≤ 3900) (hn : n < 0 → k * n.natAbs ≤ 7900) : wOK a b n := by
  refine ⟨Nat.lt_of_le_of_lt ha (big_gt (by omega)), Nat.lt_of_le_of_lt hb (big_gt (by omega)), fun h1 h2 => ?_⟩
  have e : (0 - n).toNat = n.natAbs := by omega
  rw [e]
  exact ⟨Int.pow_ne_zero h0, powBig ha (hn h1), powBig hb (hn h1)⟩
theorem B.wOK {q : Rat} {k : Nat} {n : Int} (x : B k q) (hk : k ≤ 3900) (hn : n < 0 → k * n.natAbs ≤ 7900) : wOK q.num q.den n :=
  wOK_of (numNe x.1) x.2.1 (by rw [Int.natAbs_natCast]; exact x.2.2) hk hn
theorem pairQ {u v : Rat} (h : u = v) : u.num = v.num ∧ (u.den : Int) = v.den := by subst h; exact ⟨rfl, rfl⟩
section
variable {prog : Program} {w : World} {A : Around} {E : Value → Shared → Prop} {s : Shared} {K : Frag} {p : Program} {loose : List Str} {mean : ExcName → Option Value} {mg mb : Str → Option Value} {A₀ : Around} {base g0 h₀ : Heap} {outer : List Env} {L D D' : Addr} {m : Str → Option Value} {l l' news : List (Addr × Obj)} {a b c d : Int} {Q : Value → Shared → Prop}
theorem isiStr (C : Cx K p loose mean mg mb A₀ base outer g0 h₀) (F : Fr h₀ L s.heap m) (N : News h₀ L s.heap news) (x : FA base l D a b) (hs : Sub l news) (k : ∀ tk, Q (.bool false) { s with toks := tk }) :
    wpAny (model prog w) A (call (.builtin "isinstance") [.ref D, .type "str"]) Q E s := by
  obtain ⟨o, ta, tb, n, ho, hc, hd⟩ := x.tup C F N hs
  exact IsiPair.tuple_str ho hc (k _)
theorem eqSame (C : Cx K p loose mean mg mb A₀ base outer g0 h₀) (F : Fr h₀ L s.heap m) (N : News h₀ L s.heap news) (x : FA base l D a b) (y : FA base l' D' c d) (hs : Sub l news) (hs' : Sub l' news) (hu : A.units + 64 < cLine) (e : a = c ∧ b = d)
    (k : Q (.bool true) s) : wpAny (model prog w) A (compareOp .Eq (.ref D) (.ref D')) Q E s := eqFA C F N x y hs hs' hu (by rw [decide_eq_true e]; exact k)
theorem neSame (C : Cx K p loose mean mg mb A₀ base outer g0 h₀) (F : Fr h₀ L s.heap m) (N : News h₀ L s.heap news) (x : FA base l D a b) (y : FA base l' D' c d) (hs : Sub l news) (hs' : Sub l' news) (hu : A.units + 64 < cLine) (e : a = c ∧ b = d)
    (k : Q (.bool false) s) : wpAny (model prog w) A (compareOp .NotEq (.ref D) (.ref D')) Q E s := neFA C F N x y hs hs' hu (by rw [decide_eq_true e]; exact k)
theorem eqDiff (C : Cx K p loose mean mg mb A₀ base outer g0 h₀) (F : Fr h₀ L s.heap m) (N : News h₀ L s.heap news) (x : FA base l D a b) (y : FA base l' D' c d) (hs : Sub l news) (hs' : Sub l' news) (hu : A.units + 64 < cLine) (e : ¬ (a = c ∧ b = d))
    (k : Q (.bool false) s) : wpAny (model prog w) A (compareOp .Eq (.ref D) (.ref D')) Q E s := eqFA C F N x y hs hs' hu (by rw [decide_eq_false e]; exact k)
theorem neDiff (C : Cx K p loose mean mg mb A₀ base outer g0 h₀) (F : Fr h₀ L s.heap m) (N : News h₀ L s.heap news) (x : FA base l D a b) (y : FA base l' D' c d) (hs : Sub l news) (hs' : Sub l' news) (hu : A.units + 64 < cLine) (e : ¬ (a = c ∧ b = d))
    (k : Q (.bool true) s) : wpAny (model prog w) A (compareOp .NotEq (.ref D) (.ref D')) Q E s := neFA C F N x y hs hs' hu (by rw [decide_eq_false e]; exact k)
end
section
variable {w : World} {p : Program} {loose : List Str} {mean : ExcName → Option Value} {mg mb : Str → Option Value} {base : Heap} {l news : List (Addr × Obj)} {D D2 : Addr}
theorem power_q {q : Rat} {n : Int} {k j : Nat} (x : FA base news D q.num q.den) (y : FA base news D2 n 1) (hB : B k q) (hj : n.natAbs ≤ j) (hk : k ≤ 3900 ∧ k * j ≤ 7900 ∧ j ≤ 4096) :
    SpecW w p loose mean mg mb 12 base news 120 [.ref D, .ref D2] (fun l v => ∃ D', v = .ref D' ∧ FA base l D' (q ^ n).num (q ^ n).den) False := by
  obtain ⟨hk, hn', hm'⟩ := hk
  have hm : n.natAbs ≤ 4096 := Nat.le_trans hj hm'
  have hn : k * n.natAbs ≤ 7900 := Nat.le_trans (Nat.mul_le_mul_left _ hj) hn'
  have e := powQ hB.1 hm
  refine Spec.mono (power_ss x y (Int.le_of_lt (denPos q)) (hB.sml1 hk) (hB.sml2 hk) (Sd.w1 (hB.wOK hk fun _ => hn))) ?_ ?_
  · rintro l v ⟨r, D', h1, h2, h3⟩
    rw [e] at h1
    cases h1
    exact ⟨D', h2, h3⟩
  · intro h
    rw [e] at h
    cases h
theorem mul_q {a b : Rat} {k j : Nat} (x : FA base news D a.num a.den) (y : FA base news D2 b.num b.den) (hA : B k a) (hB : B j b) (hk : k + j ≤ 3900) :
    SpecW w p loose mean mg mb 9 base news 92 [.ref D, .ref D2] (fun l v => ∃ D', v = .ref D' ∧ FA base l D' (a * b).num (a * b).den) False := by
  have h1 := denPos a
  have h2 := denPos b
  have h3 : (a.den : Int).natAbs ≤ 2 ^ k := by rw [Int.natAbs_natCast]; exact hA.2.2
  have h4 : (b.den : Int).natAbs ≤ 2 ^ j := by rw [Int.natAbs_natCast]; exact hB.2.2
  refine Spec.mono (mul_spec x y (by omega) (by omega) (hA.big1 (by omega)) (hA.big2 (by omega)) (hB.big1 (by omega)) (hB.big2 (by omega)) (prodBig hA.2.1 hB.2.1 (by omega)) (prodBig h3 h4 (by omega))) ?_ id
  rintro l v ⟨D', h1, h2⟩
  rw [mkMul] at h2
  exact ⟨D', h1, h2⟩
theorem div_q {a b : Rat} {k j : Nat} (x : FA base news D a.num a.den) (y : FA base news D2 b.num b.den) (hA : B k a) (hB : B j b) (hk : k + j ≤ 3900) :
    SpecW w p loose mean mg mb 9 base news 99 [.ref D, .ref D2] (fun l v => ∃ D', v = .ref D' ∧ FA base l D' (a / b).num (a / b).den) False := by
  have h1 := denPos a
  have h2 := denPos b
  have h3 : (a.den : Int).natAbs ≤ 2 ^ k := by rw [Int.natAbs_natCast]; exact hA.2.2
  have h4 : (b.den : Int).natAbs ≤ 2 ^ j := by rw [Int.natAbs_natCast]; exact hB.2.2
  refine Spec.mono (div_spec x y (by omega) (numNe hB.1) (by omega) (hA.big1 (by omega)) (hA.big2 (by omega)) (hB.big1 (by omega)) (hB.big2 (by omega)) (prodBig hA.2.1 h4 (by omega)) (prodBig h3 hB.2.1 (by omega))) ?_ id
  rintro l v ⟨D', h1, h2⟩
  rw [mkDiv] at h2
  exact ⟨D', h1, h2⟩
theorem neg_q {a : Rat} (x : FA base news D a.num a.den) :
    SpecW w p loose mean mg mb 5 base news 85 [.ref D] (fun l v => ∃ D', v = .ref D' ∧ FA base l D' (-a).num (-a).den) False := by
  refine Spec.mono (neg_some x) ?_ id
  rintro l v ⟨D', h1, h2⟩
  rw [Int.zero_sub, ← Rat.neg_num] at h2
  exact ⟨D', h1, by rw [Rat.neg_den]; exact h2⟩
end
local macro_rules | `(tactic| walk_at "call ref") => `(tactic| ((with_reducible show wpAny _ _ (call (Value.ref 120) [Value.ref _, Value.ref _]) _ _ _); k_dflt (refine' Spec.useR (power_q ?x ?y ?hB ?hj ?hk) ?hA ?hh ?hr ?he ?C ?F ?N ?_ ?exc ?hck; walk_at "m_used"; (case x => walk_at "m_fam"); (case y => walk_at "m_fam"); (case hB => with_reducible assumption); (case hj => with_reducible assumption); (case hk => decide)); walk_at "m_got"))
local macro_rules | `(tactic| walk_at "call ref") => `(tactic| ((with_reducible show wpAny _ _ (call (Value.ref 92) [Value.ref _, Value.ref _]) _ _ _); k_dflt (refine' Spec.useR (mul_q ?x ?y ?hB ?hB2 ?hk) ?hA ?hh ?hr ?he ?C ?F ?N ?_ ?exc ?hck; walk_at "m_used"; (case x => walk_at "m_fam"); (case y => walk_at "m_fam"); (case hB => with_reducible assumption); (case hB2 => with_reducible assumption); (case hk => decide)); walk_at "m_got"))
local macro_rules | `(tactic| walk_at "call ref") => `(tactic| ((with_reducible show wpAny _ _ (call (Value.ref 99) [Value.ref _, Value.ref _]) _ _ _); k_dflt (refine' Spec.useR (div_q ?x ?y ?hB ?hB2 ?hk) ?hA ?hh ?hr ?he ?C ?F ?N ?_ ?exc ?hck; walk_at "m_used"; (case x => walk_at "m_fam"); (case y => walk_at "m_fam"); (case hB => with_reducible assumption); (case hB2 => with_reducible assumption); (case hk => decide)); walk_at "m_got"))
local macro_rules | `(tactic| walk_at "call ref") => `(tactic| ((with_reducible show wpAny _ _ (call (Value.ref 85) [Value.ref _]) _ _ _); k_dflt (refine' Spec.useR (neg_q ?x) ?hA ?hh ?hr ?he ?C ?F ?N ?_ ?exc ?hck; walk_at "m_used"; (case x => walk_at "m_fam")); walk_at "m_got"))
local macro_rules | `(tactic| walk_at "m_same") => `(tactic| first | exact ⟨rfl, rfl⟩ | exact pairQ (by with_reducible assumption) | exact isOne.mpr (by with_reducible assumption) | k_extra "same")
local macro_rules | `(tactic| walk_at "compareOp Eq ref ref") => `(tactic| (k_dflt (refine' eqSame ?C ?F ?N ?x ?y ?h ?h1 ?u ?e ?_; walk_at "m_xy"; (case e => walk_at "m_same"))))
local macro_rules | `(tactic| walk_at "compareOp NotEq ref ref") => `(tactic| (k_dflt (refine' neSame ?C ?F ?N ?x ?y ?h ?h1 ?u ?e ?_; walk_at "m_xy"; (case e => walk_at "m_same"))))
theorem fmod4 (m : Int) : 0 ≤ m.fmod 4 ∧ m.fmod 4 ≤ 3 := by
  rw [Int.fmod_eq_emod_of_nonneg _ (by decide)]
  omega
theorem fmod4mul {m n : Int} (hn : n.natAbs ≤ 8) : (m.fmod 4 * n).natAbs ≤ 24 := by
  have h := fmod4 m
  rw [Int.natAbs_mul]
  have := Nat.mul_le_mul (show (m.fmod 4).natAbs ≤ 3 by omega) hn
  omega
section
variable {w : World} {p : Program} {loose : List Str} {mean : ExcName → Option Value} {mg mb : Str → Option Value} {base : Heap} {l news : List (Addr × Obj)} {D D2 : Addr}
theorem wholes_spec {q1 q2 : Rat} {m n : Int} {tm tn : Tok} (x : FA base news D q1.num q1.den) (y : FA base news D2 q2.num q2.den) (hx : B 80 q1) (hy : B 80 q2) (km : m.natAbs ≤ 8) (kn : n.natAbs ≤ 8) :
    SpecW w p loose mean mg mb 14 base news 204 [.ref D, .ref D2, .int m tm, .int n tn] (fun l v => v = .bool true) False := by
  refine' enterN [("x", .ref D), ("y", .ref D2), ("m", .int m tm), ("n", .int n tn)] [("n", .int n tn), ("m", .int m tm), ("y", .ref D2), ("x", .ref D)] ?hrb ?ho ?hcd ?hbind ?hloc ?hco ?hgen ?hk ?hcell ?_
  walk_at "m_enter"
  have z := hx.1
  have h1 : B 640 (q1 ^ m) := hx.pow km
  have h2 : B 640 (q1 ^ n) := hx.pow kn
  have h3 : B 160 (q1 * q2) := hx.mul hy
  have h4 : B 160 (q1 / q2) := hx.div hy
  have h5 : B 640 (q2 ^ m) := hy.pow km
  have h6 : B 640 (q2 ^ n) := hy.pow kn
  have f4 := fmod4 m
  have h7 : B 240 (q1 ^ (m.fmod 4)) := hx.pow (j := 3) (by omega)
  have h8 : B 640 (q1 ^ (-m)) := hx.pow (j := 8) (by omega)
  have h9 : B 80 (-q1) := hx.neg
  have hb := fmod4mul (m := m) kn
  have e1 : q1 ^ m * q1 ^ n = q1 ^ (m + n) := (Rat.zpow_add z m n).symm
  have e2 : q1 ^ m / q1 ^ n = q1 ^ (m - n) := by rw [Int.sub_eq_add_neg, Rat.zpow_add z, Rat.zpow_neg, Rat.div_def]
  have e3 : (q1 * q2) ^ m = q1 ^ m * q2 ^ m := mulZ _ _ _
  have e4 : (q1 / q2) ^ n = q1 ^ n / q2 ^ n := divZ _ _ _
  have e5 : (q1 ^ (m.fmod 4)) ^ n = q1 ^ (m.fmod 4 * n) := powZ _ _ _
  have e6 : q1 ^ m * q1 ^ (-m) = 1 := by rw [← Rat.zpow_add z, Int.add_right_neg, Rat.zpow_zero]
  have e7 : q1 ^ (1 : Int) = q1 := Rat.zpow_one _
  have e8 : q1 ^ (0 : Int) = 1 := Rat.zpow_zero _
  have e9 : m.fmod 2 = 0 → (-q1) ^ m = q1 ^ m := fun h => by rw [negQZ, if_pos (by rw [← fmod2]; exact h)]
  have e10 : ¬ m.fmod 2 = 0 → (-q1) ^ m = -(q1 ^ m) := fun h => by rw [negQZ, if_neg (by rw [← fmod2]; exact h)]
  have j1 : (m + n).natAbs ≤ 16 := by omega
  have j2 : (m - n).natAbs ≤ 16 := by omega
  have j3 : (m.fmod 4).natAbs ≤ 3 := by omega
  have j4 : (-m).natAbs ≤ 8 := by omega
  have j5 : (1 : Int).natAbs ≤ 1 := by decide
  have j6 : (0 : Int).natAbs ≤ 0 := by decide
  k_with "same" => (first | exact pairQ (e9 (by assumption)) | exact pairQ (e10 (by assumption)))
  walk_at "m_steps"
  all_goals walk_at "m_ret"
  all_goals rfl
end
/-- the fraction without its sign -/
def ab (q : Rat) : Rat := if q.num < 0 then -q else q
theorem ab_num (q : Rat) : (ab q).num = (q.num.natAbs : Int) := by
  unfold ab
  split
  · rw [Rat.neg_num]; omega
  · omega
theorem ab_den (q : Rat) : (ab q).den = q.den := by
  unfold ab
  split
  · exact Rat.neg_den q
  · rfl
theorem abNe {q : Rat} (h : q ≠ 0) : ab q ≠ 0 := fun z => by
  have := ab_num q
  rw [z] at this
  have := numNe h
  simp only [Rat.zero_num] at *
  omega
theorem sqNum (q : Rat) : (q * q).num = q.num * q.num ∧ (q * q).den = q.den * q.den := by
  have e : q * q = q ^ 2 := by rw [Rat.pow_succ, Rat.pow_succ, Rat.pow_zero, Rat.one_mul]
  rw [e, Rat.num_pow, Rat.den_pow]
  exact ⟨by rw [Int.pow_succ, Int.pow_succ, Int.pow_zero, Int.one_mul], by rw [Nat.pow_succ, Nat.pow_succ, Nat.pow_zero, Nat.one_mul]⟩
theorem sqAbs (n : Int) : sq (n * n).toNat = n.natAbs := by
  have : (n * n).toNat = n.natAbs * n.natAbs := by
    rw [← Int.natAbs_mul_self]
    rfl
  rw [this, sq_sq]
theorem selfPos {n : Int} (h : n ≠ 0) : 0 < n * n := by
  rw [← Int.natAbs_mul_self]
  have : 0 < n.natAbs * n.natAbs := Nat.mul_pos (by omega) (by omega)
  omega
theorem rootSq {n : Int} {d : Nat} (hn : n ≠ 0) (hd : 0 < d) : rootF (n * n) ((d * d : Nat) : Int) = some ((n.natAbs : Int), (d : Int)) := by
  have h1 : 0 < n * n := selfPos hn
  have h2 : 0 < d * d := Nat.mul_pos hd hd
  have e2 : sq ((d * d : Nat) : Int).toNat = d := by rw [Int.toNat_natCast, sq_sq]
  have e3 : ((n.natAbs : Nat) : Int) * ((n.natAbs : Nat) : Int) = n * n := Int.natAbs_mul_self
  unfold rootF
  rw [sqAbs, e2, if_neg (by omega), if_neg (by omega), if_pos ⟨e3, by rw [Int.natCast_mul]⟩]
theorem rootQQ {q : Rat} (h : q ≠ 0) : rootF (q * q).num ((q * q).den : Int) = some ((q.num.natAbs : Int), (q.den : Int)) := by
  rw [(sqNum q).1, (sqNum q).2]
  exact rootSq (numNe h) q.den_pos
theorem powAb {q : Rat} (h : q ≠ 0) {k : Int} (hk : k.natAbs ≤ 4096) : powF (q.num.natAbs : Int) (q.den : Int) k 1 = some ((ab q ^ k).num, ((ab q ^ k).den : Int)) := by
  have := powQ (abNe h) hk
  rw [ab_num, ab_den] at this
  exact this
theorem powHalf {q : Rat} (h : q ≠ 0) {k : Int} (h0 : k ≠ 0) (hk : k.natAbs ≤ 4096) : powF (q * q).num ((q * q).den : Int) k 2 = some ((ab q ^ k).num, ((ab q ^ k).den : Int)) := by
  have hr := rootQQ h
  have hw := wholeQ (abNe h) hk
  rw [ab_num, ab_den] at hw
  have hn : (q * q).num > 0 := by rw [(sqNum q).1]; exact selfPos (numNe h)
  have hd := denPos (q * q)
  unfold powF
  by_cases h1 : q * q = 1
  · rw [if_pos (.inl (isOne.mpr h1))]
    have e1 := (isOne.mpr h1).1
    have e2 := (isOne.mpr h1).2
    rw [(sqNum q).1] at e1
    rw [(sqNum q).2] at e2
    have a1 : ab q = 1 := by
      apply Rat.ext
      · rw [ab_num]
        have e3 := Int.natAbs_mul_self (a := q.num)
        rw [e1] at e3
        have : q.num.natAbs * q.num.natAbs = 1 := by omega
        rw [Nat.eq_one_of_mul_eq_one_right this]
        rfl
      · rw [ab_den]
        have : q.den * q.den = 1 := by omega
        rw [Nat.eq_one_of_mul_eq_one_right this]
        rfl
    rw [a1, oneZ]
    rfl
  · rw [if_neg (fun z => by
      rcases z with z | z
      · exact h1 (isOne.mp z)
      · exact h0 z.1), if_neg (by omega), if_neg (by omega), if_neg (by omega), if_neg (by omega), if_neg (by omega), if_neg (by omega), if_pos rfl, hr]
    exact hw
theorem whole_some {a b k : Int} (hk : k.natAbs ≤ 4096) : ∃ r, wholeF a b k = some r := by
  unfold wholeF
  split
  · exact ⟨_, rfl⟩
  · split
    · exact ⟨_, rfl⟩
    · rw [if_neg (by omega)]
      split
      · exact ⟨_, rfl⟩
      · exact ⟨_, rfl⟩
theorem pow2 {a b k : Int} (h1 : ¬ (a = 1 ∧ b = 1)) (h0 : k ≠ 0) (ha : 0 < a) (hb : 0 < b) : powF a b k 2 = (rootF a b).bind fun r => wholeF r.1 r.2 k := by
  unfold powF
  rw [if_neg (by omega), if_neg (by omega), if_neg (by omega), if_neg (by omega), if_neg (by omega), if_neg (by omega), if_neg (by omega), if_pos rfl]
theorem pow3 {a b k : Int} (h1 : ¬ (a = 1 ∧ b = 1)) (ha : 0 < a) (hb : 0 < b) : powF a b k 3 = none := by
  unfold powF
  rw [if_neg (by omega), if_neg (by omega), if_neg (by omega), if_neg (by omega), if_neg (by omega), if_neg (by omega), if_neg (by omega), if_neg (by omega)]
theorem powNan {a b k d : Int} (ha : a < 0) (hb : 0 < b) (hd : d = 2 ∨ d = 3) (h0 : k ≠ 0) : powF a b k d = some (0, 0) := by
  unfold powF
  rw [if_neg (by omega), if_neg (by omega), if_neg (by omega), if_neg (by omega), if_neg (by omega), if_neg (by omega), if_pos ha]
theorem powOne {k d : Int} : powF 1 1 k d = some (1, 1) := by unfold powF; rw [if_pos (.inl ⟨rfl, rfl⟩)]
theorem pow1 {a b k : Int} (ha : 0 < a) (hb : 0 < b) (h0 : k ≠ 0) : powF a b k 1 = wholeF a b k := by
  unfold powF
  by_cases h1 : a = 1 ∧ b = 1
  · rw [if_pos (.inl h1)]; unfold wholeF; rw [if_pos h1]
  · rw [if_neg (by omega), if_neg (by omega), if_neg (by omega), if_neg (by omega), if_neg (by omega), if_pos rfl]
theorem rootPos {a b : Int} {r : Int × Int} (ha : 0 < a) (hb : 0 < b) (h : rootF a b = some r) : r = ((sq a.toNat : Int), (sq b.toNat : Int)) ∧ 0 < r.1 ∧ 0 < r.2 ∧ r.1 ≤ a ∧ r.2 ≤ b := by
  unfold rootF at h
  rw [if_neg (by omega), if_neg (by omega)] at h
  split at h
  · cases h
    have h1 := sq_pos (n := a.toNat) (by omega)
    have h2 := sq_pos (n := b.toNat) (by omega)
    have h3 := sq_le a.toNat
    have h4 := sq_le b.toNat
    exact ⟨rfl, by dsimp only; omega, by dsimp only; omega, by dsimp only; omega, by dsimp only; omega⟩
  · cases h
section
variable {w : World} {p : Program} {loose : List Str} {mean : ExcName → Option Value} {mg mb : Str → Option Value} {base : Heap} {l news : List (Addr × Obj)} {D D2 : Addr}
theorem power_eq {a b c d : Int} {r : Int × Int} (x : FA base news D a b) (y : FA base news D2 c d) (e : powF a b c d = some r) (h0 : 0 ≤ b) (fa : a.natAbs < sml) (fb : b.natAbs < sml) (sd : Sd a b c d) :
    SpecW w p loose mean mg mb 12 base news 120 [.ref D, .ref D2] (fun l v => ∃ D', v = .ref D' ∧ FA base l D' r.1 r.2) False := by
  refine Spec.mono (power_ss x y h0 fa fb sd) ?_ ?_
  · rintro l v ⟨r', D', h1, h2, h3⟩
    rw [e] at h1
    cases h1
    exact ⟨D', h2, h3⟩
  · intro h
    rw [e] at h
    cases h
theorem root_eq {a b : Int} {r : Int × Int} (x : FA base news D a b) (e : rootF a b = some r) (h0 : 0 ≤ b) (fa : a.natAbs < sml) (fb : b.natAbs < sml) :
    SpecW w p loose mean mg mb 7 base news 113 [.ref D] (fun l v => ∃ D', v = .ref D' ∧ FA base l D' r.1 r.2) False := by
  refine Spec.mono (root_spec x h0 fa fb) ?_ ?_
  · rintro l v ⟨r', D', h1, h2, h3⟩
    rw [e] at h1
    cases h1
    exact ⟨D', h2, h3⟩
  · intro h
    rw [e] at h
    cases h
theorem toldS {o : Option (Int × Int)} {r : Int × Int} {v : Value} {l : List (Addr × Obj)} (t : Told base l o v) (e : o = some r) : ∃ D', v = .ref D' ∧ FA base l D' r.1 r.2 := by
  rcases t with ⟨r', D', h1, h2, h3⟩ | ⟨h1, _⟩
  · rw [e] at h1; cases h1; exact ⟨D', h2, h3⟩
  · rw [e] at h1; cases h1
theorem toldN {o : Option (Int × Int)} {v : Value} {l : List (Addr × Obj)} (t : Told base l o v) (e : o = none) : ∃ t, v = .str "result is not exact" t := by
  rcases t with ⟨r', D', h1, h2, h3⟩ | ⟨_, h⟩
  · rw [e] at h1; cases h1
  · exact h
theorem toldRootS {a b : Int} {v : Value} {r : Int × Int} (x : FA base news D a b) (e : rootF a b = some r) (h0 : 0 ≤ b) (fa : a.natAbs < sml) (fb : b.natAbs < sml) :
    SpecW w p loose mean mg mb 11 base news 183 [.ref 190, .ref D, v] (fun l v => ∃ D', v = .ref D' ∧ FA base l D' r.1 r.2) False := Spec.mono (toldRoot_spec x h0 fa fb) (fun _ _ t => toldS t e) id
theorem toldRootN {a b : Int} {v : Value} (x : FA base news D a b) (e : rootF a b = none) (h0 : 0 ≤ b) (fa : a.natAbs < sml) (fb : b.natAbs < sml) :
    SpecW w p loose mean mg mb 11 base news 183 [.ref 190, .ref D, v] (fun l v => ∃ t, v = .str "result is not exact" t) False := Spec.mono (toldRoot_spec x h0 fa fb) (fun _ _ t => toldN t e) id
theorem toldPowerS {a b c d : Int} {r : Int × Int} (x : FA base news D a b) (y : FA base news D2 c d) (e : powF a b c d = some r) (h0 : 0 ≤ b) (fa : a.natAbs < sml) (fb : b.natAbs < sml) (sd : Sd a b c d) :
    SpecW w p loose mean mg mb 14 base news 183 [.ref 120, .ref D, .ref D2] (fun l v => ∃ D', v = .ref D' ∧ FA base l D' r.1 r.2) False := Spec.mono (toldPower_spec x y h0 fa fb sd) (fun _ _ t => toldS t e) id
theorem toldPowerN {a b c d : Int} (x : FA base news D a b) (y : FA base news D2 c d) (e : powF a b c d = none) (h0 : 0 ≤ b) (fa : a.natAbs < sml) (fb : b.natAbs < sml) (sd : Sd a b c d) :
    SpecW w p loose mean mg mb 14 base news 183 [.ref 120, .ref D, .ref D2] (fun l v => ∃ t, v = .str "result is not exact" t) False := Spec.mono (toldPower_spec x y h0 fa fb sd) (fun _ _ t => toldN t e) id
end
local macro_rules | `(tactic| walk_at "m_eqn") => `(tactic| first | with_reducible assumption | k_extra "pow")
local macro_rules | `(tactic| walk_at "m_side") => `(tactic| first | with_reducible assumption | exact Sd.triv (by decide) (by decide) | exact Sd.b0 | exact Sd.zero | exact Sd.one | exact Sd.w1 (by with_reducible assumption) | k_extra "side")
local macro_rules | `(tactic| walk_at "call ref") => `(tactic| ((with_reducible show wpAny _ _ (call (Value.ref 120) [Value.ref _, Value.ref _]) _ _ _); k_dflt (refine' Spec.useR (power_eq ?x ?y ?e ?g0 ?g1 ?g2 ?g3) ?hA ?hh ?hr ?he ?C ?F ?N ?_ ?exc ?hck; walk_at "m_used"; (case x => walk_at "m_fam"); (case y => walk_at "m_fam"); (case e => walk_at "m_eqn"); (case g0 => walk_at "m_ar"); (case g1 => walk_at "m_ar"); (case g2 => walk_at "m_ar"); (case g3 => walk_at "m_side")); walk_at "m_got"))
local macro_rules | `(tactic| walk_at "call ref") => `(tactic| ((with_reducible show wpAny _ _ (call (Value.ref 113) [Value.ref _]) _ _ _); k_dflt (refine' Spec.useR (root_eq ?x ?e ?g0 ?g1 ?g2) ?hA ?hh ?hr ?he ?C ?F ?N ?_ ?exc ?hck; walk_at "m_used"; (case x => walk_at "m_fam"); (case e => walk_at "m_eqn"); (case g0 => walk_at "m_ar"); (case g1 => walk_at "m_ar"); (case g2 => walk_at "m_ar")); walk_at "m_got"))
local macro_rules | `(tactic| walk_at "call ref") => `(tactic| ((with_reducible show wpAny _ _ (call (Value.ref 183) [Value.ref 190, Value.ref _, _]) _ _ _); k_dflt (refine' Spec.useR (toldRootS ?x ?e ?g0 ?g1 ?g2) ?hA ?hh ?hr ?he ?C ?F ?N ?_ ?exc ?hck; walk_at "m_used"; (case x => walk_at "m_fam"); (case e => walk_at "m_eqn"); (case g0 => walk_at "m_ar"); (case g1 => walk_at "m_ar"); (case g2 => walk_at "m_ar")); walk_at "m_got"))
local macro_rules | `(tactic| walk_at "call ref") => `(tactic| ((with_reducible show wpAny _ _ (call (Value.ref 183) [Value.ref 190, Value.ref _, _]) _ _ _); k_dflt (refine' Spec.useR (toldRootN ?x ?e ?g0 ?g1 ?g2) ?hA ?hh ?hr ?he ?C ?F ?N ?_ ?exc ?hck; walk_at "m_used"; (case x => walk_at "m_fam"); (case e => walk_at "m_eqn"); (case g0 => walk_at "m_ar"); (case g1 => walk_at "m_ar"); (case g2 => walk_at "m_ar")); walk_at "m_got"))
local macro_rules | `(tactic| walk_at "call ref") => `(tactic| ((with_reducible show wpAny _ _ (call (Value.ref 183) [Value.ref 120, Value.ref _, Value.ref _]) _ _ _); k_dflt (refine' Spec.useR (toldPowerS ?x ?y ?e ?g0 ?g1 ?g2 ?g3) ?hA ?hh ?hr ?he ?C ?F ?N ?_ ?exc ?hck; walk_at "m_used"; (case x => walk_at "m_fam"); (case y => walk_at "m_fam"); (case e => walk_at "m_eqn"); (case g0 => walk_at "m_ar"); (case g1 => walk_at "m_ar"); (case g2 => walk_at "m_ar"); (case g3 => walk_at "m_side")); walk_at "m_got"))
local macro_rules | `(tactic| walk_at "call ref") => `(tactic| ((with_reducible show wpAny _ _ (call (Value.ref 183) [Value.ref 120, Value.ref _, Value.ref _]) _ _ _); k_dflt (refine' Spec.useR (toldPowerN ?x ?y ?e ?g0 ?g1 ?g2 ?g3) ?hA ?hh ?hr ?he ?C ?F ?N ?_ ?exc ?hck; walk_at "m_used"; (case x => walk_at "m_fam"); (case y => walk_at "m_fam"); (case e => walk_at "m_eqn"); (case g0 => walk_at "m_ar"); (case g1 => walk_at "m_ar"); (case g2 => walk_at "m_ar"); (case g3 => walk_at "m_side")); walk_at "m_got"))
local macro_rules | `(tactic| walk_at "m_diff") => `(tactic| first | with_reducible assumption | k_extra "diff")
local macro_rules | `(tactic| walk_at "compareOp Eq ref ref") => `(tactic| (k_dflt (refine' eqDiff ?C ?F ?N ?x ?y ?h ?h1 ?u ?e ?_; walk_at "m_xy"; (case e => walk_at "m_diff"))))
local macro_rules | `(tactic| walk_at "compareOp NotEq ref ref") => `(tactic| (k_dflt (refine' neDiff ?C ?F ?N ?x ?y ?h ?h1 ?u ?e ?_; walk_at "m_xy"; (case e => walk_at "m_diff"))))
local macro_rules | `(tactic| walk_at "call builtin:isinstance") => `(tactic| ((with_reducible show wpAny _ _ (call (Value.builtin "isinstance") [Value.ref _, Value.type "str"]) _ _ _); k_dflt (refine' isiStr ?C ?F ?N ?x ?h ?_; walk_at "m_fcn"; (case x => walk_at "m_fa"); (case h => walk_at "m_sub")); intro tk'; (try dsimp only)))
section
variable {w : World} {p : Program} {loose : List Str} {mean : ExcName → Option Value} {mg mb : Str → Option Value} {base : Heap} {l news : List (Addr × Obj)} {D D2 : Addr}
theorem parts_spec {q : Rat} {m : Int} {tm : Tok} (x : FA base news D q.num q.den) (hx : B 80 q) (km : m.natAbs ≤ 8) :
    SpecW w p loose mean mg mb 16 base news 211 [.ref D, .int m tm] (fun l v => v = .bool true) False := by
  refine' enterN [("x", .ref D), ("m", .int m tm)] [("m", .int m tm), ("x", .ref D)] ?hrb ?ho ?hcd ?hbind ?hloc ?hco ?hgen ?hk ?hcell ?_
  walk_at "m_enter"
  have z := hx.1
  have hxx : B 160 (q * q) := hx.mul hx
  have hp := denPos q
  have hpp := denPos (q * q)
  have s1 := hx.sml1 (by decide)
  have s2 := hx.sml2 (by decide)
  have s3 := hxx.sml1 (by decide)
  have s4 := hxx.sml2 (by decide)
  have s5 : (q.num.natAbs : Int).natAbs < sml := by rw [Int.natAbs_natCast]; exact s1
  have k0 : 2 * m + 1 ≠ 0 := by omega
  have kk : (2 * m + 1).natAbs ≤ 4096 := by omega
  have e1 := powHalf z k0 kk
  have e2 := powAb z kk
  have w1 : wOK (q.num.natAbs : Int) q.den (2 * m + 1) := by
    have := numNe z
    exact wOK_of (by omega) (by rw [Int.natAbs_natCast]; exact hx.2.1) (by rw [Int.natAbs_natCast]; exact hx.2.2) (k := 80) (by decide) (fun _ => by omega)
  have w2 : ∀ r, rootF (q * q).num ((q * q).den : Int) = some r → wOK r.1 r.2 (2 * m + 1) := fun r hr => by
    rw [rootQQ z] at hr
    cases hr
    exact w1
  have w2' : Sd (q * q).num ((q * q).den : Int) (2 * m + 1) 2 := Sd.w2 fun _ => w2
  by_cases c1 : q = 1
  · subst c1
    have e3 : powF (1 : Rat).num ((1 : Rat).den : Int) (2 * m + 1) 2 = some (1, 1) := powOne
    have e4 : rootF (1 : Rat).num ((1 : Rat).den : Int) = some (1, 1) := rfl
    have w3 : Sd (1 : Rat).num ((1 : Rat).den : Int) (2 * m + 1) 2 := Sd.one
    walk_at "m_steps"
    all_goals walk_at "m_ret"
    all_goals rfl
  have c1' : ¬ (q.num = 1 ∧ (q.den : Int) = 1) := fun h => c1 (isOne.mp h)
  have hn := numNe z
  by_cases c2 : q.num < 0
  · have e3 : powF q.num (q.den : Int) (2 * m + 1) 2 = some (0, 0) := powNan c2 hp (.inl rfl) k0
    have e4 : powF q.num (q.den : Int) 1 3 = some (0, 0) := powNan c2 hp (.inr rfl) (by decide)
    have e5 : rootF q.num (q.den : Int) = some (0, 0) := by unfold rootF; rw [if_neg (by omega), if_pos c2]
    have w3 : Sd q.num (q.den : Int) (2 * m + 1) 2 := Sd.w2 fun h0 => by omega
    walk_at "m_steps"
    all_goals walk_at "m_ret"
    all_goals rfl
  have hpos : 0 < q.num := by omega
  have e6 : powF q.num (q.den : Int) (3 * m + 1) 3 = none := pow3 c1' hpos hp
  have e7 := pow2 (k := 2 * m + 1) c1' k0 hpos hp
  have w3 : Sd q.num (q.den : Int) (2 * m + 1) 2 := Sd.w2 fun _ r hr => by
    obtain ⟨-, r1, r2, r3, r4⟩ := rootPos hpos hp hr
    have b1 := hx.2.1
    have b2 := hx.2.2
    exact wOK_of (k := 80) (by omega) (by omega) (by omega) (by decide) (fun _ => by omega)
  cases hr : rootF q.num (q.den : Int) with
  | none =>
    rw [hr] at e7
    have e8 : powF q.num (q.den : Int) (2 * m + 1) 2 = none := e7
    walk_at "m_steps"
    all_goals walk_at "m_ret"
    all_goals rfl
  | some r =>
    obtain ⟨-, r1, r2, r3, r4⟩ := rootPos hpos hp hr
    obtain ⟨a, b⟩ := r
    dsimp only at r1 r2 r3 r4
    have b1 := hx.2.1
    have b2 := hx.2.2
    have b3 := sml_gt (k := 80) (by decide)
    have t1 : a.natAbs < sml := by omega
    have t2 : b.natAbs < sml := by omega
    have w4 : wOK a b (2 * m + 1) := wOK_of (k := 80) (by omega) (by omega) (by omega) (by decide) (fun _ => by omega)
    obtain ⟨r', hw⟩ := whole_some (a := a) (b := b) kk
    have e8 : powF q.num (q.den : Int) (2 * m + 1) 2 = some r' := by rw [e7, hr]; exact hw
    have e9 : powF a b (2 * m + 1) 1 = some r' := by rw [pow1 r1 r2 k0]; exact hw
    walk_at "m_steps"
    all_goals walk_at "m_ret"
    all_goals rfl
end
section
variable {prog : Program} {w : World} {K : Frag} {p : Program} {loose : List Str} {mean : ExcName → Option Value} {mg mb : Str → Option Value} {A A₀ : Around} {E : Value → Shared → Prop} {s : Shared} {base g0 h₀ : Heap} {outer : List Env} {L a : Addr} {news : List (Addr × Obj)} {cn : Str} {cs : Scope} {ccd : Value} {Q : Flow → Shared → Prop}
theorem loopVals {x : Str} {px : Pos} {body : List Stmt} {D : Addr} {vs : List Value} {nn : Nat} (vars : List Str) (l : List (Str × Value)) (Pv : List (Addr × Obj) → Value → Prop) (hv : ∀ v ∈ vs, Pv news v)
    (hh : A.handled = none) (C : Cx K p loose mean mg mb A₀ base outer g0 h₀) (F : Fr h₀ L s.heap (mapOf l)) (N : News h₀ L s.heap ((D, listOf vs.toArray nn) :: news)) (hx : vars.contains x = true) (hlt : ∀ q ∈ news, q.1 < D)
    (turn : ∀ v g h tk m n₁, Pv news v → Cx K p loose mean mg mb A₀ base outer g0 g → Fr g L h (fun y => if y = x then some v else mix vars m l y) → News g L h n₁ → Sub news n₁ →
      ∀ G : Flow → Shared → Prop, (∀ g' h' tk' m' n₂, Cx K p loose mean mg mb A₀ base outer g0 g' → Fr g' L h' m' → News g' L h' n₂ → Sub n₁ n₂ → Mixed vars l m' → G .next { s with heap := h', toks := tk' }) →
      wpAny (model prog w) A (execs body (envOf cn cs L a ccd)) G (fun _ _ => False) { s with heap := h, toks := tk })
    (done : ∀ g h tk m n₁, Cx K p loose mean mg mb A₀ base outer g0 g → Fr g L h (mix vars m l) → News g L h n₁ → Sub news n₁ → Q .next { s with heap := h, toks := tk })
    (hk : cs.kind = .function) (hlo : (envOf cn cs L a ccd).kindOf x = some .local) :
    wpAny (model prog w) A (pyIter (.ref D)) (fun it s₂ => LoopCx prog w A (envOf cn cs L a ccd) x px body Q E it s₂) E s := by
  have hne : ∀ q ∈ news, q.1 ≠ D := fun q hq => Nat.ne_of_lt (hlt q hq)
  refine loopList vars l (fun _ n₁ => Sub news n₁) hh C F N Mixed.of Sub.refl hx hne ?_ ?_ hk hlo
  · intro i v g h tk m news' I oI hvi C₁ F₁ N₁ sub ne hID G hG _
    refine turn v g h tk m _ (hv v (List.mem_of_getElem? hvi)) C₁ F₁ N₁ (fun q hq => List.mem_append_left _ (sub q hq)) G ?_
    intro g' h' tk' m' n₂ C' F' N' sub' hm'
    refine hG g' h' tk' m' (n₂.filter fun q => decide (q.1 ≠ D) && decide (q.1 ≠ I)) C' F' ?_ hm' ?_ ?_
    · intro q hq
      rcases List.mem_append.mp hq with hq | hq
      · exact N' q (List.mem_filter.mp hq).1
      · exact N' q (sub' q (List.mem_append_right _ hq))
    · intro q hq
      have := ne q (sub q hq)
      exact List.mem_filter.mpr ⟨sub' q (List.mem_append_left _ (sub q hq)), by simpa using this⟩
    · intro q hq
      simpa using (List.mem_filter.mp hq).2
  · intro g h tk m n₁ C₁ F₁ N₁ sub
    exact done g h tk m n₁ C₁ F₁ N₁ sub
end
theorem sqMk (q : Rat) : mkF (q.num * q.num) ((q.den : Int) * (q.den : Int)) = (q.num * q.num, (q.den : Int) * (q.den : Int)) := by
  rw [mkMul]
  unfold fr2
  rw [(sqNum q).1, (sqNum q).2, Int.natCast_mul]
theorem mkPos {n d : Int} {j : Nat} (hn : 0 < n) (kd : 0 < d) (h1 : n ≤ 2 ^ j) (h2 : d ≤ 2 ^ j) : ∃ a b, mkF n d = (a, b) ∧ 0 < a ∧ 0 < b ∧ a.natAbs ≤ 2 ^ j ∧ b.natAbs ≤ 2 ^ j := by
  refine ⟨_, _, rfl, ?_⟩
  obtain ⟨e1, e2⟩ := @mk_num n d kd
  obtain ⟨a, rfl⟩ := Int.eq_ofNat_of_zero_le (Int.le_of_lt hn)
  obtain ⟨b, rfl⟩ := Int.eq_ofNat_of_zero_le (Int.le_of_lt kd)
  have hp := denPos (Rat.divInt (a : Int) (b : Int))
  have h3 : (2 : Int) ^ j = ((2 ^ j : Nat) : Int) := by rw [Int.natCast_pow]; rfl
  have hne : Rat.divInt (a : Int) (b : Int) ≠ 0 := by
    rw [Rat.divInt_ofNat]
    exact (Rat.mkRat_ne_zero (by omega)).mpr (by omega)
  have hn' := numNe hne
  show 0 < (Rat.divInt (a : Int) (b : Int)).num ∧ 0 < ((Rat.divInt (a : Int) (b : Int)).den : Int) ∧ (Rat.divInt (a : Int) (b : Int)).num.natAbs ≤ 2 ^ j ∧ (((Rat.divInt (a : Int) (b : Int)).den : Nat) : Int).natAbs ≤ 2 ^ j
  rw [fdiv_nat] at e1 e2
  have l1 := Nat.div_le_self a (Int.gcd ((a : Int).natAbs : Int) (b : Int))
  have l2 := Nat.div_le_self b (Int.gcd ((a : Int).natAbs : Int) (b : Int))
  generalize a / (Int.gcd ((a : Int).natAbs : Int) (b : Int)) = u at *
  generalize b / (Int.gcd ((a : Int).natAbs : Int) (b : Int)) = u' at *
  omega
theorem rootExact {a b : Int} (ha : 0 < a) (hb : 0 < b) (h1 : (sq a.toNat : Int) * (sq a.toNat : Int) = a) (h2 : (sq b.toNat : Int) * (sq b.toNat : Int) = b) : rootF a b = some ((sq a.toNat : Int), (sq b.toNat : Int)) := by
  unfold rootF
  rw [if_neg (by omega), if_neg (by omega), if_pos ⟨h1, h2⟩]
theorem rootNo1 {a b : Int} (ha : 0 < a) (hb : 0 < b) (h1 : ¬ (sq a.toNat : Int) * (sq a.toNat : Int) = a) : rootF a b = none := by
  unfold rootF
  rw [if_neg (by omega), if_neg (by omega), if_neg fun h => h1 h.1]
theorem rootNo2 {a b : Int} (ha : 0 < a) (hb : 0 < b) (h1 : ¬ (sq b.toNat : Int) * (sq b.toNat : Int) = b) : rootF a b = none := by
  unfold rootF
  rw [if_neg (by omega), if_neg (by omega), if_neg fun h => h1 h.2]
theorem rootNeg {a b : Int} (ha : 0 < a) (hb : 0 < b) : rootF (0 - a) b = some (0, 0) := by
  unfold rootF
  rw [if_neg (by omega), if_pos (by omega)]
section
variable {w : World} {p : Program} {loose : List Str} {mean : ExcName → Option Value} {mg mb : Str → Option Value} {base : Heap} {l news : List (Addr × Obj)} {D D2 : Addr}
theorem plain_eq {n d : Int} {tn td : Tok} {r : Int × Int} (e : mkF n d = r) (kd : 0 < d) (fd : d.natAbs < big) : SpecW w p loose mean mg mb 7 base news 162 [.int n tn, .int d td] (fun l v => ∃ D, v = .ref D ∧ FA base l D r.1 r.2) False := by
  subst e
  exact plain_spec kd fd
end
local macro_rules | `(tactic| walk_at "call ref") => `(tactic| ((with_reducible show wpAny _ _ (call (Value.ref 162) [Value.int _ _, Value.int _ _]) _ _ _); k_dflt (refine' Spec.useR (plain_eq ?e ?ga ?gb) ?hA ?hh ?hr ?he ?C ?F ?N ?_ ?exc ?hck; (case e => walk_at "m_eqn"); (case ga => walk_at "m_ar"); (case gb => walk_at "m_ar"); walk_at "m_used"); walk_at "m_got"))
local macro_rules | `(tactic| walk_at "m_mixed") => `(tactic| first | exact Mixed.mix | exact Mixed.of | (refine Mixed.step (by decide) ?_; walk_at "m_mixed"))
local macro_rules | `(tactic| walk_at "m_loop") => `(tactic| ((case N => with_reducible assumption); (case hh => with_reducible assumption); (case C => with_reducible assumption); (case F => (refine' frMap (by with_reducible assumption) ?e9; (case e9 => walk_at "m_map"))); (case hx => decide); (case lt => with_reducible assumption); (case hk => exact rfl); (case hlo => exact rfl)))
local macro_rules | `(tactic| walk_at "m_next") => `(tactic| ((try dsimp only); k_dflt (refine' $(Lean.mkIdent `hG1):ident _ _ _ _ _ ?C ?F ?N ?h ?mm; walk_at "m_fcn"; (case h => walk_at "m_sub"); (case mm => walk_at "m_mixed"))))
theorem natSq {q : Rat} (hx : B 80 q) : (q.num * q.num).natAbs ≤ 2 ^ 160 ∧ ((q.den : Int) * (q.den : Int)).natAbs ≤ 2 ^ 160 := by
  have h1 := Nat.mul_le_mul hx.2.1 hx.2.1
  have h2 := Nat.mul_le_mul hx.2.2 hx.2.2
  rw [Int.natAbs_mul, Int.natAbs_mul, Int.natAbs_natCast]
  exact ⟨h1, h2⟩
theorem big170 : (2 : Nat) ^ 170 < sml := sml_gt (by decide)
section
variable {w : World} {p : Program} {loose : List Str} {mean : ExcName → Option Value} {mg mb : Str → Option Value} {base : Heap} {l news : List (Addr × Obj)} {D D2 : Addr}
theorem roots_spec {q : Rat} (x : FA base news D q.num q.den) (hx : B 80 q) :
    SpecW w p loose mean mg mb 14 base news 197 [.ref D] (fun l v => v = .bool true) False := by
  refine' enterN [("x", .ref D)] [("x", .ref D)] ?hrb ?ho ?hcd ?hbind ?hloc ?hco ?hgen ?hk ?hcell ?_
  walk_at "m_enter"
  have z := hx.1
  have hn := numNe z
  have hp := denPos q
  have q1 := selfPos hn
  have q2 := selfPos (n := (q.den : Int)) (by omega)
  have s1 := hx.2.1
  have s2 := hx.2.2
  obtain ⟨s3, s4⟩ := natSq hx
  have s0 := big170
  have hbig := big_ge
  have e0 := sqMk q
  have u1 : (q.num * q.num).natAbs < sml := by omega
  have u2 : ((q.den : Int) * (q.den : Int)).natAbs < sml := by omega
  have u3 : ((q.den : Int) * (q.den : Int)).natAbs < big := by omega
  have u4 : ((q.den : Int) * (q.den : Int) + 1).natAbs < big := by omega
  have u5 : 0 < (q.den : Int) * (q.den : Int) + 1 := by omega
  have u6 : (q.den : Int).natAbs < big := by omega
  have u7 : q.num.natAbs < big := by omega
  have er : rootF (q.num * q.num) ((q.den : Int) * (q.den : Int)) = some ((q.num.natAbs : Int), (q.den : Int)) := by
    have := rootSq hn q.den_pos
    rw [Int.natCast_mul] at this
    exact this
  obtain ⟨a1, b1, e1, c1, d1, f1, g1⟩ := mkPos (n := q.num * q.num + 1) (d := (q.den : Int) * (q.den : Int)) (j := 170) (by omega) (by omega) (by omega) (by omega)
  obtain ⟨a2, b2, e2, c2, d2, f2, g2⟩ := mkPos (n := q.num * q.num) (d := (q.den : Int) * (q.den : Int) + 1) (j := 170) (by omega) (by omega) (by omega) (by omega)
  obtain ⟨a3, b3, e3, c3, d3, f3, g3⟩ := mkPos (n := (q.num.natAbs : Int)) (d := (q.den : Int)) (j := 170) (by omega) (by omega) (by omega) (by omega)
  have r1 : rootF 0 1 = some (0, 1) := rfl
  have r2 : rootF 1 0 = some (1, 0) := rfl
  have r3 : rootF (-1) 0 = some (0, 0) := rfl
  have r4 : rootF 0 0 = some (0, 0) := rfl
  k_with "pyIter ref" => (k_dflt (refine' loopVals ["near", "top", "low", "due"] [("square", _), ("x", .ref D)] (fun nw v => ∃ Dn a b, v = .ref Dn ∧ FA base nw Dn a b ∧ 0 < a ∧ 0 < b ∧ a.natAbs ≤ 2 ^ 170 ∧ b.natAbs ≤ 2 ^ 170) ?hv ?hh ?C ?F ?N ?hx ?lt ?_ ?_ ?hk ?hlo; walk_at "m_loop"; (case hv => (refine List.forall_mem_cons.mpr ⟨⟨_, a1, b1, rfl, by walk_at "m_fam", c1, d1, f1, g1⟩, List.forall_mem_cons.mpr ⟨⟨_, a2, b2, rfl, by walk_at "m_fam", c2, d2, f2, g2⟩, List.forall_mem_cons.mpr ⟨⟨_, a3, b3, rfl, by walk_at "m_fam", c3, d3, f3, g3⟩, List.forall_mem_nil _⟩⟩⟩))); (intro v1 g1 h1 tk1 m1 n1 P1 C1 F1 N1 S1 G1 hG1; have X1 := Cx.X C1; have T1 := Cx.T C1; obtain ⟨Dn, a, b, rfl, y, p1, p2, p3, p4⟩ := P1; have s5 := sqBig (a := a) (by omega) (by omega); have s6 := sqBig (a := b) (by omega) (by omega); have r5 := rootNeg p1 p2; have t1 : a.natAbs < sml := (by omega); have t2 : b.natAbs < sml := (by omega); have t3 : (0 - a).natAbs < sml := (by omega); dsimp only); rotate_left; (intro g1 h1 tk1 m1 n1 C1 F1 N1 S1; have X1 := Cx.X C1; have T1 := Cx.T C1; dsimp only); rotate_right)
  k_with "pow" => (first | exact rootExact (by assumption) (by assumption) (by assumption) (by assumption) | exact rootNo1 (by assumption) (by assumption) (by assumption) | exact rootNo2 (by assumption) (by assumption) (by assumption))
  walk_at "m_steps"
  all_goals first | (exfalso; omega) | walk_at "m_next" | (walk_at "m_ret"; rfl)
end
local macro_rules | `(tactic| walk_at "call ref") => `(tactic| ((with_reducible show wpAny _ _ (call (Value.ref 120) [Value.none, Value.ref _]) _ _ _); k_dflt (refine' Spec.useR (power_nv (.inr ⟨_, _, _, rfl, ?y, ?ne⟩)) ?hA ?hh ?hr ?he ?C ?F ?N ?_ ?exc ?hck; walk_at "m_used"; (case y => walk_at "m_fam"); (case ne => omega)); walk_at "m_got"))
local macro_rules | `(tactic| walk_at "call ref") => `(tactic| ((with_reducible show wpAny _ _ (call (Value.ref 120) [Value.none, Value.ref _]) _ _ _); k_dflt (refine' Spec.useR (power_n0 ?y ⟨rfl, rfl⟩) ?hA ?hh ?hr ?he ?C ?F ?N ?_ ?exc ?hck; walk_at "m_used"; (case y => walk_at "m_fam")); walk_at "m_got"))
local macro_rules | `(tactic| walk_at "call ref") => `(tactic| ((with_reducible show wpAny _ _ (call (Value.ref 120) [Value.ref _, Value.none]) _ _ _); k_dflt (refine' Spec.useR (power_sn ?x ?ne) ?hA ?hh ?hr ?he ?C ?F ?N ?_ ?exc ?hck; walk_at "m_used"; (case x => walk_at "m_fam"); (case ne => with_reducible assumption)); walk_at "m_got"))
local macro_rules | `(tactic| walk_at "call ref") => `(tactic| ((with_reducible show wpAny _ _ (call (Value.ref 120) [Value.ref _, Value.none]) _ _ _); k_dflt (refine' Spec.useR (power_1n ?x ⟨rfl, rfl⟩) ?hA ?hh ?hr ?he ?C ?F ?N ?_ ?exc ?hck; walk_at "m_used"; (case x => walk_at "m_fam")); walk_at "m_got"))
theorem powZero {a b : Int} : powF a b 0 1 = some (1, 1) := by unfold powF; rw [if_pos (.inr ⟨rfl, rfl⟩)]
theorem wOK0 {a b : Int} (ha : a.natAbs < sml) (hb : b.natAbs < sml) : wOK a b 0 := by
  have := big_ge
  exact ⟨by omega, by omega, fun h => absurd h (by decide)⟩
theorem powNa {c d : Int} (h : ¬ (c = 0 ∧ d = 1)) : powF 0 0 c d = some (0, 0) := by
  unfold powF
  rw [if_neg (by omega), if_pos (.inl ⟨rfl, rfl⟩)]
theorem powNb {a b : Int} (h : ¬ (a = 1 ∧ b = 1)) : powF a b 0 0 = some (0, 0) := by
  unfold powF
  rw [if_neg (by omega), if_pos (.inr ⟨rfl, rfl⟩)]
theorem powZ1 {c d : Int} (hc : 0 < c) (hd : 0 < d) : powF 0 1 c d = some (0, 1) := by
  unfold powF
  rw [if_neg (by omega), if_neg (by omega), if_pos ⟨rfl, rfl⟩, if_pos hc]
theorem powZ2 {c d : Int} (hc : c < 0) (hd : 0 < d) : powF 0 1 c d = some (1, 0) := by
  unfold powF
  rw [if_neg (by omega), if_neg (by omega), if_pos ⟨rfl, rfl⟩, if_neg (by omega)]
theorem powI1 {c d : Int} (hc : 0 < c) (hd : 0 < d) : powF 1 0 c d = some (1, 0) := by
  unfold powF infF
  rw [if_neg (by omega), if_neg (by omega), if_neg (by omega), if_neg (by omega), if_pos rfl, if_neg (by omega), if_neg (by omega), if_neg (by omega)]
theorem powI2 {c d : Int} (hc : c < 0) (hd : 0 < d) : powF 1 0 c d = some (0, 1) := by
  unfold powF infF
  rw [if_neg (by omega), if_neg (by omega), if_neg (by omega), if_neg (by omega), if_pos rfl, if_neg (by omega), if_pos hc]
theorem powE {a b c : Int} (h : ¬ (a = 1 ∧ b = 1)) (ha : a ≠ 0) (hc : c ≠ 0) : powF a b c 0 = some (endF a b c) := by
  unfold powF
  rw [if_neg (by omega), if_neg (by omega), if_neg (by omega), if_pos rfl]
section
variable {w : World} {p : Program} {loose : List Str} {mean : ExcName → Option Value} {mg mb : Str → Option Value} {base : Heap} {l news : List (Addr × Obj)} {D D2 : Addr}
theorem marks_spec {q : Rat} (x : FA base news D q.num q.den) (hx : B 80 q) :
    SpecW w p loose mean mg mb 14 base news 218 [.ref D] (fun l v => v = .bool true) False := by
  refine' enterN [("x", .ref D)] [("x", .ref D)] ?hrb ?ho ?hcd ?hbind ?hloc ?hco ?hgen ?hk ?hcell ?_
  walk_at "m_enter"
  have z := hx.1
  have hn := numNe z
  have hp := denPos q
  have s1 := hx.sml1 (by decide)
  have s2 := hx.sml2 (by decide)
  have s0 := big170
  have e1 := @powNa q.num q.den (by omega)
  have e2 : powF 0 1 1 0 = some (0, 1) := rfl
  have e3 : powF 0 1 (-1) 0 = some (1, 0) := rfl
  have e4 : powF (-1) 0 3 1 = some (-1, 0) := rfl
  have e5 : powF (-1) 0 4 1 = some (1, 0) := rfl
  have e6 : powF (-1) 0 (-3) 1 = some (0, 1) := rfl
  have e7 : powF (-1) 0 1 2 = some (0, 0) := rfl
  have hcase : (q = 1 ∧ 0 < q.num ∧ powF 0 1 q.num (q.den : Int) = some (0, 1) ∧ powF 1 0 q.num (q.den : Int) = some (1, 0) ∧ powF q.num (q.den : Int) 1 0 = some (1, 1))
      ∨ (q.num < 0 ∧ ¬ (q.num = 1 ∧ (q.den : Int) = 1) ∧ powF 0 1 q.num (q.den : Int) = some (1, 0) ∧ powF 1 0 q.num (q.den : Int) = some (0, 1) ∧ powF q.num (q.den : Int) 0 0 = some (0, 0) ∧ powF q.num (q.den : Int) 1 0 = some (0, 0) ∧ powF q.num (q.den : Int) (-1) 0 = some (0, 0))
      ∨ (0 < q.num ∧ ¬ (q.num = 1 ∧ (q.den : Int) = 1) ∧ powF 0 1 q.num (q.den : Int) = some (0, 1) ∧ powF 1 0 q.num (q.den : Int) = some (1, 0) ∧ powF q.num (q.den : Int) 0 0 = some (0, 0) ∧ (q.num.natAbs : Int) > (q.den : Int) ∧ powF q.num (q.den : Int) 1 0 = some (1, 0) ∧ powF q.num (q.den : Int) (-1) 0 = some (0, 1))
      ∨ (0 < q.num ∧ ¬ (q.num = 1 ∧ (q.den : Int) = 1) ∧ powF 0 1 q.num (q.den : Int) = some (0, 1) ∧ powF 1 0 q.num (q.den : Int) = some (1, 0) ∧ powF q.num (q.den : Int) 0 0 = some (0, 0) ∧ ¬ (q.num.natAbs : Int) > (q.den : Int) ∧ powF q.num (q.den : Int) 1 0 = some (0, 1) ∧ powF q.num (q.den : Int) (-1) 0 = some (1, 0)) := by
    by_cases c1 : q = 1
    · subst c1
      exact .inl ⟨rfl, by decide, rfl, rfl, rfl⟩
    have c1' : ¬ (q.num = 1 ∧ (q.den : Int) = 1) := fun h => c1 (isOne.mp h)
    by_cases c2 : q.num < 0
    · refine .inr (.inl ⟨c2, c1', powZ2 c2 hp, powI2 c2 hp, powNb c1', ?_, ?_⟩)
      · rw [powE c1' hn (by decide)]; unfold endF; rw [if_pos c2]
      · rw [powE c1' hn (by decide)]; unfold endF; rw [if_pos c2]
    have c3 : 0 < q.num := by omega
    by_cases c4 : (q.num.natAbs : Int) > (q.den : Int)
    · refine .inr (.inr (.inl ⟨c3, c1', powZ1 c3 hp, powI1 c3 hp, powNb c1', c4, ?_, ?_⟩))
      · rw [powE c1' hn (by decide)]; unfold endF; rw [if_neg c2, if_pos (by omega)]
      · rw [powE c1' hn (by decide)]; unfold endF; rw [if_neg c2, if_neg (by omega)]
    · refine .inr (.inr (.inr ⟨c3, c1', powZ1 c3 hp, powI1 c3 hp, powNb c1', c4, ?_, ?_⟩))
      · rw [powE c1' hn (by decide)]; unfold endF; rw [if_neg c2, if_neg (by omega)]
      · rw [powE c1' hn (by decide)]; unfold endF; rw [if_neg c2, if_pos (by omega)]
  k_with "pyIter ref" => (k_dflt (refine' loopVals ["base"] [("large", _), ("x", .ref D)] (fun nw v => v = .none ∨ ∃ Dn a b, v = .ref Dn ∧ FA base nw Dn a b ∧ 0 ≤ b ∧ a.natAbs < sml ∧ b.natAbs < sml) ?hv ?hh ?C ?F ?N ?hx ?lt ?_ ?_ ?hk ?hlo; walk_at "m_loop"; (case hv => (refine List.forall_mem_cons.mpr ⟨.inr ⟨_, _, _, rfl, by walk_at "m_fam", by omega, s1, s2⟩, List.forall_mem_cons.mpr ⟨.inr ⟨_, _, _, rfl, by walk_at "m_fam", by omega, by omega, by omega⟩, List.forall_mem_cons.mpr ⟨.inr ⟨_, _, _, rfl, by walk_at "m_fam", by omega, by omega, by omega⟩, List.forall_mem_cons.mpr ⟨.inr ⟨_, _, _, rfl, by walk_at "m_fam", by omega, by omega, by omega⟩, List.forall_mem_cons.mpr ⟨.inr ⟨_, _, _, rfl, by walk_at "m_fam", by omega, by omega, by omega⟩, List.forall_mem_cons.mpr ⟨.inl rfl, List.forall_mem_nil _⟩⟩⟩⟩⟩⟩))); (intro v1 g1 h1 tk1 m1 n1 P1 C1 F1 N1 S1 G1 hG1; have X1 := Cx.X C1; have T1 := Cx.T C1; rcases P1 with rfl | ⟨Dn, a, b, rfl, y, p1, p2, p3⟩); rotate_left; (have w0 := Sd.w1 (wOK0 p2 p3); dsimp only); rotate_left; (intro g1 h1 tk1 m1 n1 C1 F1 N1 S1; have X1 := Cx.X C1; have T1 := Cx.T C1; dsimp only; rcases hcase with ⟨i1, i2, i3, i4, i5⟩ | ⟨i1, i2, i3, i4, i5, i6, i7⟩ | ⟨i1, i2, i3, i4, i5, i6, i7, i8⟩ | ⟨i1, i2, i3, i4, i5, i6, i7, i8⟩))
  k_with "pow" => (first | exact powZero | exact powOne)
  walk_at "m_steps"
  all_goals first | walk_at "m_next" | (walk_at "m_ret"; rfl)
end
theorem powM {c : Int} (hc : 4096 < c.natAbs) : powF (-1) 1 c 1 = some (if c.fmod 2 = 0 then (1, 1) else (-1, 1)) := by
  unfold powF wholeF
  rw [if_neg (by omega), if_neg (by omega), if_neg (by omega), if_neg (by omega), if_neg (by omega), if_pos rfl, if_neg (by omega), if_pos ⟨rfl, rfl⟩, fmod2]
theorem powZs {c : Int} (hc : 4096 < c.natAbs) : powF 0 1 c 1 = some (if 0 < c then (0, 1) else (1, 0)) := by
  unfold powF
  rw [if_neg (by omega), if_neg (by omega), if_pos ⟨rfl, rfl⟩]
theorem powFar {a b c : Int} (hc : 4096 < c.natAbs) (h1 : ¬ (a = 1 ∧ b = 1)) (h2 : ¬ (a = -1 ∧ b = 1)) (ha : a ≠ 0) (hb : 0 < b) : powF a b c 1 = none := by
  unfold powF wholeF
  rw [if_neg (by omega), if_neg (by omega), if_neg (by omega), if_neg (by omega), if_neg (by omega), if_pos rfl, if_neg h1, if_neg h2, if_pos hc]
theorem powFar' {a b c : Int} (h : (decide (1 = a ∧ 1 = b) || decide (-1 = a ∧ 1 = b)) = false) (hc : 4096 < c.natAbs) (ha : a ≠ 0) (hb : 0 < b) : powF a b c 1 = none := by
  rw [Bool.or_eq_false_iff, decide_eq_false_iff_not, decide_eq_false_iff_not] at h
  exact powFar hc (fun z => h.1 ⟨z.1.symm, z.2.symm⟩) (fun z => h.2 ⟨z.1.symm, z.2.symm⟩) ha hb
theorem wOKfar {a b c : Int} (ha : a.natAbs < sml) (hb : b.natAbs < sml) (hc : 4096 < c.natAbs) : wOK a b c := by
  have := big_ge
  exact ⟨by omega, by omega, fun _ h => by omega⟩
theorem powTop : powF 2 1 4096 1 = some ((2 : Int) ^ Int.toNat 4096, 1) := by
  unfold powF wholeF
  rw [if_neg (by decide), if_neg (by decide), if_neg (by decide), if_neg (by decide), if_neg (by decide), if_pos rfl, if_neg (by decide), if_neg (by decide), if_neg (by decide), if_pos (by decide), Int.one_pow]
theorem wOKtop : wOK 2 1 4096 := by
  have h := pow_le_big (k := 100) (by decide)
  refine ⟨?_, ?_, fun h => absurd h (by decide)⟩
  · exact Nat.lt_of_lt_of_le (by decide) h
  · exact Nat.lt_of_lt_of_le (by decide) h
section
variable {prog : Program} {w : World} {A : Around} {E : Value → Shared → Prop} {s : Shared} {K : Frag} {p : Program} {loose : List Str} {mean : ExcName → Option Value} {mg mb : Str → Option Value} {A₀ : Around} {base g0 h₀ : Heap} {outer : List Env} {L D D1 D2 Ls : Addr} {m : Str → Option Value} {l l1 l2 news : List (Addr × Obj)} {a b a1 b1 a2 b2 : Int} {Q : Value → Shared → Prop}
theorem notInFA {nn : Nat} (C : Cx K p loose mean mg mb A₀ base outer g0 h₀) (F : Fr h₀ L s.heap m) (N : News h₀ L s.heap news) (x : FA base l D a b) (y : FA base l1 D1 a1 b1) (z : FA base l2 D2 a2 b2) (hs : Sub l news) (hs1 : Sub l1 news) (hs2 : Sub l2 news)
    (hL : (Ls, listOf #[.ref D1, .ref D2] nn) ∈ news) (hu : A.units + 64 < cLine) (k : Q (.bool (!(decide (a1 = a ∧ b1 = b) || decide (a2 = a ∧ b2 = b)))) s) :
    wpAny (model prog w) A (compareOp .NotIn (.ref D) (.ref Ls)) Q E s := by
  refine SeqAt.notIn_list_reads (reads_list_at (N _ hL).1 rfl rfl (ReadsAll.cons (y.reads C F N hs1) (ReadsAll.cons (z.reads C F N hs2) ReadsAll.nil))) (x.reads C F N hs) (by rfl) (by rfl) ?_ ?_
  · have : min (PyData.depthAll [.tuple [.int a1, .int b1], .tuple [.int a2, .int b2]]) (PyData.tuple [.int a, .int b]).depth ≤ 5 := Nat.le_trans (Nat.min_le_right _ _) (by simp [PyData.depth, PyData.depthAll])
    omega
  · have e : ([PyData.tuple [.int a1, .int b1], .tuple [.int a2, .int b2]].any fun y => PyData.eqv y (.tuple [.int a, .int b])) = (decide (a1 = a ∧ b1 = b) || decide (a2 = a ∧ b2 = b)) := by
      simp only [List.any_cons, List.any_nil, Bool.or_false, pair_eqv]
    rw [e]
    exact k
end
local macro_rules | `(tactic| walk_at "compareOp NotIn ref ref") => `(tactic| (k_dflt (refine' notInFA ?C ?F ?N ?x ?y ?z ?h ?h1 ?h2 ?hL ?u ?_; walk_at "m_fcn"; (case hL => exact List.mem_cons_self); (case x => walk_at "m_fa"); (case y => walk_at "m_fa"); (case z => walk_at "m_fa"); (case h => walk_at "m_sub"); (case h1 => walk_at "m_sub"); (case h2 => walk_at "m_sub"); (case u => exact Room.u64 (by with_reducible assumption)))))
section
variable {w : World} {p : Program} {loose : List Str} {mean : ExcName → Option Value} {mg mb : Str → Option Value} {base : Heap} {l news : List (Addr × Obj)} {D D2 : Addr}
theorem limits_spec {q : Rat} {n : Int} {tn : Tok} (x : FA base news D q.num q.den) (hx : B 80 q) (kn : n.natAbs ≤ 8) :
    SpecW w p loose mean mg mb 16 base news 225 [.ref D, .int n tn] (fun l v => v = .bool true) False := by
  refine' enterN [("x", .ref D), ("n", .int n tn)] [("n", .int n tn), ("x", .ref D)] ?hrb ?ho ?hcd ?hbind ?hloc ?hco ?hgen ?hk ?hcell ?_
  walk_at "m_enter"
  have z := hx.1
  have hn := numNe z
  have hp := denPos q
  have s1 := hx.sml1 (by decide)
  have s2 := hx.sml2 (by decide)
  have s0 := big170
  have hb := big100
  have hbig := big_ge
  have hnn : 0 ≤ n * n := by
    rw [← Int.natAbs_mul_self]
    exact Int.natCast_nonneg _
  have e1 := powTop
  have w1 := Sd.w1 wOKtop
  k_with "pyIter ref" => (k_dflt (refine' loopVals ["beyond"] [("n", .int n tn), ("x", .ref D)] (fun nw v => ∃ b t, v = .int b t ∧ 4096 < b.natAbs) ?hv ?hh ?C ?F ?N ?hx ?lt ?_ ?_ ?hk ?hlo; walk_at "m_loop"; (case hv => (refine List.forall_mem_cons.mpr ⟨⟨_, _, rfl, by omega⟩, List.forall_mem_cons.mpr ⟨⟨_, _, rfl, by omega⟩, List.forall_mem_nil _⟩⟩))); (intro v1 g1 h1 tk1 m1 n1 P1 C1 F1 N1 S1 G1 hG1; have X1 := Cx.X C1; have T1 := Cx.T C1; obtain ⟨b, t, rfl, p1⟩ := P1; have e2 := powM p1; have e3 := powZs p1; have w2 := wOKfar s1 s2 p1; have w3 := wOKfar (a := -1) (b := 1) (by omega) (by omega) p1; dsimp only); rotate_left; (intro g1 h1 tk1 m1 n1 C1 F1 N1 S1; have X1 := Cx.X C1; have T1 := Cx.T C1; dsimp only); rotate_right)
  k_with "pow" => (first | exact powOne | exact powFar' (by assumption) (by assumption) (by assumption) (by assumption))
  k_with "same" => (first | (rw [if_pos (by assumption)]; exact ⟨rfl, rfl⟩) | (rw [if_neg (by assumption)]; exact ⟨rfl, rfl⟩))
  walk_at "m_steps"
  all_goals first | walk_at "m_next" | (walk_at "m_ret"; rfl)
end
local macro_rules | `(tactic| walk_at "m_gotT") => `(tactic| (intro v' h' news' g' tk' sub' C' F' N' ok'; (have X' := Cx.X C'); (have T' := Cx.T C'); (try dsimp only at ok'); subst ok'; (try dsimp only)))
local macro_rules | `(tactic| walk_at "m_useG") => `(tactic| (walk_at "m_fcn"; (case hA => with_reducible assumption); (case hck => exact rfl); (case hh => with_reducible assumption); walk_at "m_du"))
local macro_rules | `(tactic| walk_at "call ref") => `(tactic| ((with_reducible show wpAny _ _ (call (Value.ref 148) [Value.ref _]) _ _ _); k_dflt (refine' SpecG.useR (heap_spec ?hL ?hI ?hz) ?hA ?hh ?hr ?he ?C ?F ?N ?_ ?hck; walk_at "m_useG"; (case hL => with_reducible assumption); (case hI => with_reducible assumption); (case hz => with_reducible assumption)); intro v' h' news' g' tk' C' F' N' ok'; (have X' := Cx.X C'); (have T' := Cx.T C'); (try dsimp only at ok'); (rcases ok' with ⟨H1', v1', t1', n1', e1', e2', ne1'⟩); subst e1'; subst e2'; (try dsimp only)))
local macro_rules | `(tactic| walk_at "call ref") => `(tactic| ((with_reducible show wpAny _ _ (call (Value.ref 176) [Value.ref _]) _ _ _); k_dflt (refine' SpecG.useR (any_spec ?ne) ?hA ?hh ?hr ?he ?C ?F ?N ?_ ?hck; walk_at "m_useG"; (case ne => with_reducible assumption)); intro v' h' news' g' tk' C' F' N' ok'; (have X' := Cx.X C'); (have T' := Cx.T C'); (try dsimp only at ok'); (rcases ok' with ⟨q1', D1', v1', t1', n1', r1', e1', z1', z2', e2', ne1', sub1', f1'⟩); subst e1'; subst e2'; (have hB' := B.of z1' z2'); (try dsimp only)))
local macro_rules | `(tactic| walk_at "call ref") => `(tactic| ((with_reducible show wpAny _ _ (call (Value.ref 197) [Value.ref _]) _ _ _); k_dflt (refine' Spec.useR (roots_spec ?x ?hB) ?hA ?hh ?hr ?he ?C ?F ?N ?_ ?exc ?hck; walk_at "m_used"; (case x => walk_at "m_fam"); (case hB => with_reducible assumption)); walk_at "m_gotT"))
local macro_rules | `(tactic| walk_at "call ref") => `(tactic| ((with_reducible show wpAny _ _ (call (Value.ref 204) [Value.ref _, Value.ref _, Value.int _ _, Value.int _ _]) _ _ _); k_dflt (refine' Spec.useR (wholes_spec ?x ?y ?hB ?hB2 ?km ?kn) ?hA ?hh ?hr ?he ?C ?F ?N ?_ ?exc ?hck; walk_at "m_used"; (case x => walk_at "m_fam"); (case y => walk_at "m_fam"); (case hB => with_reducible assumption); (case hB2 => with_reducible assumption); (case km => omega); (case kn => omega)); walk_at "m_gotT"))
local macro_rules | `(tactic| walk_at "call ref") => `(tactic| ((with_reducible show wpAny _ _ (call (Value.ref 211) [Value.ref _, Value.int _ _]) _ _ _); k_dflt (refine' Spec.useR (parts_spec ?x ?hB ?km) ?hA ?hh ?hr ?he ?C ?F ?N ?_ ?exc ?hck; walk_at "m_used"; (case x => walk_at "m_fam"); (case hB => with_reducible assumption); (case km => omega)); walk_at "m_gotT"))
local macro_rules | `(tactic| walk_at "call ref") => `(tactic| ((with_reducible show wpAny _ _ (call (Value.ref 218) [Value.ref _]) _ _ _); k_dflt (refine' Spec.useR (marks_spec ?x ?hB) ?hA ?hh ?hr ?he ?C ?F ?N ?_ ?exc ?hck; walk_at "m_used"; (case x => walk_at "m_fam"); (case hB => with_reducible assumption)); walk_at "m_gotT"))
local macro_rules | `(tactic| walk_at "call ref") => `(tactic| ((with_reducible show wpAny _ _ (call (Value.ref 225) [Value.ref _, Value.int _ _]) _ _ _); k_dflt (refine' Spec.useR (limits_spec ?x ?hB ?km) ?hA ?hh ?hr ?he ?C ?F ?N ?_ ?exc ?hck; walk_at "m_used"; (case x => walk_at "m_fam"); (case hB => with_reducible assumption); (case km => omega)); walk_at "m_gotT"))
theorem topA {M : Model} {cn : Str} {cs : Scope} {L a : Addr} {ccd : Value} {body : List Stmt} {Q : Flow → Shared → Prop} {E : Value → Shared → Prop} {s : Shared}
    (h : ∀ A : Around, A.frames = some [envOf cn cs L a ccd] → A.handled = none → A.depth + 40 < recursionLimit → A.units + 8 * 40 + 100 < cLine → wpAny M A (execs body (envOf cn cs L a ccd)) Q E s) :
    wpAny M (callerA.deeper (envOf cn cs L a ccd)) (execs body (envOf cn cs L a ccd)) Q E s := h _ rfl rfl (by show 1 + claimMargin + 1 + 40 < recursionLimit; decide) (by show 4 + 3 + 8 * 40 + 100 < cLine; decide)
theorem frBase {K : Frag} {p : Program} {loose : List Str} {mean : ExcName → Option Value} {mg mb : Str → Option Value} {A₀ : Around} {base g0 h₀ h : Heap} {outer : List Env} {L : Addr} {m : Str → Option Value}
    (C : Cx K p loose mean mg mb A₀ base outer g0 h₀) (F : Fr h₀ L h m) (hl : base.objs.size ≤ L) : Fr base L h m := ⟨F.ns, fun b o e => F.keep b o (C.B.stays b o e), hl⟩
theorem holds0 : PySem.Challenge.rw_ov0047_01.Holds := Mine.hd (by
  k_go0
  (all_goals try k_fold)
  refine topA fun A hA hh hd hu => ?_
  have rm := Room.mk hd hu
  have C0 : Cx (Mine.hd.heap_1 _) _ _ _ _ _ callerA _ [] _ _ := ⟨by assumption, by assumption, by assumption, ktsDicts_nil, KtsTurn.refl⟩
  (with_reducible rename IntsAre _ _ => hI)
  have hlen := hI.length
  have hsz : Array.size (List.toArray _) ≤ sizeLine := (by rw [List.size_toArray, hlen, sizeLine_eq]; omega)
  have hb := big100
  walk_at "m_steps"
  all_goals (
    refine goodW_bool (frBase (by with_reducible assumption) (by with_reducible assumption) (Nat.le_refl _)) (by with_reducible assumption) (raisesW_false ?_) ?_
    · wrow_none_raised
    · wrow_post))
end Mine

theorem PySem.Challenge.cw_ov0047_01_holds : PySem.Challenge.rw_ov0047_01.Holds := by
  exact Mine.holds0
