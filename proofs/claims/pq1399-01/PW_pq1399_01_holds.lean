import PyProof.Rows.All
import Wide.All
import OpenK.AllK
import Wide.FinOn
import Lean
import PySem.Challenge.RW_pq1399_01
section
namespace Mine
theorem gcd_step {p q : Int} (hq : 0 ≤ q) : Int.gcd q (p.fmod q) = Int.gcd p q := by
  rw [Int.fmod_eq_emod_of_nonneg _ hq, Int.gcd_comm, Int.emod_def, Int.gcd_sub_mul_left_left]
theorem fmod_less {p q : Int} (h : 0 < q) : 0 ≤ p.fmod q ∧ (p.fmod q).toNat < q.toNat := by
  rw [Int.fmod_eq_emod_of_nonneg _ (Int.le_of_lt h)]
  have h1 := Int.emod_nonneg p (Int.ne_of_gt h)
  have h2 := Int.emod_lt_of_pos p h
  omega
theorem gcd_end {p q : Int} (hp : 0 ≤ p) (hq : 0 ≤ q) (h : ¬ 0 < q) : ((Int.gcd p q : Nat) : Int) = p := by
  have : q = 0 := by omega
  subst this
  rw [Int.gcd_zero_right]
  omega
end Mine
end

section
open PySem PySem.W PyProof.Rows PySem.Calls
set_option Elab.async false
set_option maxRecDepth 100000
namespace Mine
/-- a turn's end: all that it leaves -/
def TurnEnd (h₀ : Heap) (L : Addr) (own : List (Addr × Obj)) (Jn : (Str → Option Value) → List (Addr × Obj) → Prop) (s₁ : Shared) (Q : Flow → Shared → Prop) (f : Flow) (s₂ : Shared) : Prop :=
  match f with
  | .ret v => Q (.ret v) s₂
  | .brk => Q .next s₂
  | _ => ∃ h' tk m' nx, s₂ = { s₁ with heap := h', toks := tk } ∧ Fr h₀ L h' m' ∧ News h₀ L h' (own ++ nx) ∧ (∀ q ∈ own, ∀ p ∈ nx, q.1 ≠ p.1) ∧ Jn m' nx
section
variable {prog : Program} {w : World} {A : Around} {E : Value → Shared → Prop} {s : Shared} {env : Env} {h₀ : Heap} {x : Str} {body : List Stmt} {Q : Flow → Shared → Prop}

theorem range_loop {r : Addr} {a₀ b₀ : Int} {t₀ u₀ v₀ : Tok} {n : Nat} {m₀ : Str → Option Value} {news : List (Addr × Obj)} (J : Nat → (Str → Option Value) → List (Addr × Obj) → Prop)
    (hh : A.handled = none) (hr : IsRange s.heap r a₀ b₀ 1 t₀ u₀ v₀) (hsmall : Builtin.Range.small a₀ b₀ 1 = true) (hn : Builtin.Range.rangeSize a₀ b₀ 1 = (n : Int)) (F : Fr h₀ env.locals s.heap m₀) (N : News h₀ env.locals s.heap news) (h0 : J 0 m₀ news)
    (turn : ∀ i t m₁ nx h tk own, i < n → J i m₁ nx → (∀ q ∈ own, ∀ p ∈ nx, q.1 ≠ p.1) → Fr h₀ env.locals h (fun y => if y = x then some (.int (a₀ + (i : Nat)) t) else m₁ y) → News h₀ env.locals h (own ++ nx) →
      wpAny (model prog w) A (execs body env) (TurnEnd h₀ env.locals own (J (i + 1)) { s with heap := h, toks := tk } Q) E { s with heap := h, toks := tk })
    (done : ∀ m₁ nx h tk, J n m₁ nx → Fr h₀ env.locals h m₁ → News h₀ env.locals h nx → Q .next { s with heap := h, toks := tk }) :
    wpAny (model prog w) A (pyIter (.ref r)) (fun it s₂ => LoopAtV prog w A h₀ env x body Q E it s₂) E s := by
  refine wpAny_pyIter_range hr hsmall ?_
  have W : Walks prog w A s.heap.objs.size [s.heap.objs.size] [s.heap.objs.size] n (fun i v => i < n ∧ ∃ t, v = .int (a₀ + i * 1) t)
      (fun i h => IsRangeIter h s.heap.objs.size (a₀ + (i : Nat) * 1) ((n : Int) - (i : Nat)) 1) := (Walks.range hh _ a₀ 1 n).bound
  refine ⟨_, _, _, n, _, _, m₀, news, J, rfl, W, ?_, ?_, ?_, (by show IsRangeIter _ _ _ _ _; rw [hn]; simpa using Heap.get?_push_size _ rfl), F.push _, (fun p hp => ⟨Heap.get?_push_of_some _ (N p hp).1, (N p hp).2⟩), h0, ?_, ?_⟩
  · intro hm
    exact absurd F.ns.lt ((List.mem_singleton.mp hm) ▸ Nat.lt_irrefl _)
  · intro b hb
    rw [List.mem_singleton.mp hb]
    exact next_is_new F
  · intro p hp hI
    exact absurd (Heap.lt_size (N p hp).1) ((List.mem_singleton.mp hI) ▸ Nat.lt_irrefl _)
  · rintro i v m₁ nx s₁ own ⟨hh', tk', rfl⟩ hin ⟨_, t, rfl⟩ hJ hoff hown _ hall hst F₁ N₁
    have hI : (s.heap.objs.size, _) ∈ own := hall s.heap.objs.size (.head _) (next_is_new F) _ hst
    have ha : (a₀ + (i : Int) * 1) = a₀ + (i : Nat) := by rw [Int.mul_one]
    rw [ha] at F₁
    refine wpAny_mono (turn i t m₁ nx hh' tk' own hin hJ (fun q hq p hp e => hoff p hp (by rw [← e]; exact hown q hq)) F₁ N₁) (fun f s₂ p => ?_) fun _ _ e => e
    have fin : TurnEnd h₀ env.locals own (J (i + 1)) { s with heap := hh', toks := tk' } Q .next s₂ → LoopStepU h₀ env.locals [s.heap.objs.size] own (J (i + 1)) { s with heap := hh', toks := tk' } .next s₂ := by
      rintro ⟨h', tk, m', nx', e, F', N', ho, hj⟩
      refine ⟨rfl, h', tk, m', nx', e, F', N', fun p hp hq => ?_, hj⟩
      exact ho _ hI p hp (List.mem_singleton.mp hq).symm
    cases f with
    | ret v => exact .ret p
    | brk => exact .brk p
    | next => exact .next (fin p)
    | cont => exact .cont (fin p)
  · rintro h' tk m' news' F' N' _ hJ
    exact done m' news' h' tk hJ F' N'
end
end Mine
end

section
open PySem PySem.W PyProof.Rows
set_option Elab.async false
set_option maxRecDepth 100000
set_option maxHeartbeats 8000000
namespace Mine
open_top hd for PySem.Challenge.rw_pq1399_01
end Mine
end

section
open PySem PySem.W PyProof.Rows PySem.Calls
set_option Elab.async false
set_option maxRecDepth 100000
namespace Mine

/-! an exception that bears a dict: in flight, held, left -/
theorem dict_mapFields (o : Obj) (f : Array Value → Array Value) : (o.mapFields f).dict = o.dict := by
  obtain ⟨c, d, dt, sl⟩ := o; cases dt <;> rfl

def TrD (h base : Heap) (e : Addr) (cls : Value) (dx : Addr) (fl : Value) : Prop :=
  ∃ oe vs T oT ts, h.get? e = some oe ∧ (oe.cls = cls ∧ oe.dict = some dx) ∧ oe.data = .fields vs ∧ vs[1]? = some (.ref T) ∧ base.get? T = none ∧ T ≠ e ∧ h.get? T = some oT ∧ oT.data = .fields ts ∧ ts[3]? = some fl

theorem TrD.obj {h base : Heap} {e dx : Addr} {cls fl : Value} (x : TrD h base e cls dx fl) : ∃ oe vs, h.get? e = some oe ∧ oe.cls = cls ∧ oe.dict = some dx ∧ oe.data = .fields vs := by
  obtain ⟨oe, vs, _, _, _, he, ⟨hc, hd⟩, hv, _⟩ := x
  exact ⟨oe, vs, he, hc, hd, hv⟩

def FlyD (base : Heap) (l : List Env) (e : Addr) (cls : Value) (dx : Addr) (h : Heap) : Prop :=
  base.StaysIn h ∧ base.get? e = none ∧ h.FunFrames base l ∧ TrD h base e cls dx .none

def HoldD (base : Heap) (l : List Env) (e : Addr) (cls : Value) (dx : Addr) (L : Addr) (h : Heap) : Prop :=
  base.StaysIn h ∧ base.get? e = none ∧ h.FunFrames base l ∧ TrD h base e cls dx (rawInt L)

def PutD (base : Heap) (l : List Env) (e : Addr) (cls : Value) (dx : Addr) (fl : Value) (h h' : Heap) : Prop :=
  base.StaysIn h' ∧ h'.FunFrames base l ∧ TrD h' base e cls dx fl ∧ h.UpToSlots h'

section
variable {M : Model} {A : Around} {E : Value → Shared → Prop} {s : Shared} {base : Heap} {env : Env} {outer : List Env} {L e dx : Addr} {cls : Value} {Q : Unit → Shared → Prop}

/-- a fresh traceback entry is put at e's head -/
theorem putEntry {oe : Obj} {vs : Array Value} {head : Value} {hadNext : Bool}
    (hfr : A.frames = some (env :: outer)) (hl : s.heap.FunFrames base (env :: outer)) (hf : env.frame = some L)
    (he : s.heap.get? e = some oe) (hkb : base.StaysIn s.heap) (hen : base.get? e = none) (hdx : oe.dict = some dx) (hd : oe.data = .fields vs) (hsz : 1 < vs.size)
    (h : ∀ h', PutD base (env :: outer) e oe.cls dx (rawInt L) s.heap h' → Q () { s with heap := h' }) :
    wpAny M A (do let a ← frameOf env; let pl ← entryPlaceOf L hadNext; let b ← EntryCells.newEntry head a .none (rawInt L) .none pl; setField (.ref e) 1 b) Q E s := by
  have hene : e ∉ (env :: outer).filterMap (·.frame) := fun hm => by
    obtain ⟨_, o, ho, hnf⟩ := hl.mem hm
    rw [he] at ho
    cases ho
    exact hnf vs hd
  refine wpAny_bind (wpAny_frameOf_fun hfr hl hf fun g hg => ?_)
  refine wpAny_bind (wpAny_entryPlaceOf fun pl hpl => ?_)
  unfold EntryCells.newEntry newFields
  refine wpAny_bind (wpAny_newObj_type ?_ (hpl.sizeOk5 _ _ _ _ _))
  have heg : g.get? e = some oe := (hg.2.1 e hene).trans he
  have hbg : base.StaysIn g := fun b o hb => (hg.2.1 b fun hm => by rw [(hl.mem hm).1] at hb; cases hb).trans (hkb b o hb)
  have heT : g.objs.size ≠ e := Nat.ne_of_gt (Heap.lt_size heg)
  refine wpAny_setField (Heap.get?_push_of_some _ heg) hd hsz (h _ ?_)
  have keep : ∀ (tb : Obj) b o, b ≠ e → g.get? b = some o → ((g.push tb).update e (Obj.mapFields (·.setIfInBounds 1 (Value.ref g.objs.size)))).get? b = some o := fun tb b o hbe hb => by
    rw [Heap.get?_update_other _ _ (Ne.symm hbe)]
    exact Heap.get?_push_of_some _ hb
  have notE : ∀ b o, s.heap.get? b = some o → (∀ ws, o.data ≠ .fields ws) → b ≠ e := fun b o hb hnf q => by
    rw [q, he] at hb
    cases hb
    exact hnf vs hd
  have hd' := Obj.data_mapFields hd (·.setIfInBounds 1 (Value.ref g.objs.size))
  refine ⟨fun b o hb => keep _ b o (fun q => by rw [q, hen] at hb; cases hb) (hbg b o hb), hl.of_keeps fun b o hb hnf => ?_, ?_, fun b o hb hnf => ?_⟩
  · obtain ⟨sl, hs⟩ := hg.2.2 b o hb
    exact ⟨_, keep _ b _ (notE b o hb hnf) hs, rfl⟩
  · refine ⟨_, _, g.objs.size, _, _, Heap.get?_update_self _ (Heap.get?_push_of_some _ heg) (Obj.isFreed_of_fields hd'), ⟨Obj.cls_mapFields _ _, (dict_mapFields _ _).trans hdx⟩, hd', by simp [hsz], hbg.fresh, heT,
      (Heap.get?_update_other _ _ (Ne.symm heT)).trans (Heap.get?_push_size g rfl), rfl, ?_⟩
    first | (simp; done) | (rcases hpl with rfl | ⟨_, _, _, _, _, _, _, rfl⟩ <;> simp)
  · obtain ⟨sl, hs⟩ := hg.2.2 b o hb
    exact ⟨sl, keep _ b _ (notE b o hb hnf) hs⟩

/-- the head entry's mark is wiped -/
theorem wipe {fl : Value} {l : List Env} (hkb : base.StaysIn s.heap) (hl : s.heap.FunFrames base l) (ht : TrD s.heap base e cls dx fl)
    (h : ∀ h', PutD base l e cls dx .none s.heap h' → Q () { s with heap := h' }) : wpAny M A (setFlight (.ref e) none) Q E s := by
  obtain ⟨oe, vs, T, oT, ts, he, hcd, hd, h1, hnT, hTe, hT, hdT, h3⟩ := ht
  have hs3 : 3 < ts.size := (Array.getElem?_eq_some_iff.mp h3).1
  have other : ∀ b, b ≠ T → (s.heap.update T (Obj.mapFields (·.setIfInBounds 3 ((none : Option Addr).elim Value.none fun f => rawInt f)))).get? b = s.heap.get? b := fun b hb => Heap.get?_update_other _ _ (Ne.symm hb)
  have notT : ∀ b o, s.heap.get? b = some o → (∀ ws, o.data ≠ .fields ws) → b ≠ T := fun b o hb hnf q => by
    rw [q, hT] at hb
    cases hb
    exact hnf ts hdT
  unfold setFlight
  refine wpAny_bind (wpAny_field he hd h1 ?_)
  rw [if_pos (show (Value.ref T != Value.none) = true from by simp)]
  refine wpAny_setField hT hdT hs3 (h _ ⟨fun b o hb => (other b fun q => by rw [q, hnT] at hb; cases hb).trans (hkb b o hb), hl.of_keeps fun b o hb hnf => ⟨o, (other b (notT b o hb hnf)).trans hb, rfl⟩, ?_,
    fun b o hb hnf => ⟨o.slots, (other b (notT b o hb hnf)).trans hb⟩⟩)
  exact ⟨oe, vs, T, _, _, (other e (Ne.symm hTe)).trans he, hcd, hd, h1, hnT, hTe, Heap.get?_update_self _ hT (Obj.isFreed_of_fields (Obj.data_mapFields hdT _)), Obj.data_mapFields hdT _, by simp [hs3]⟩

theorem PutD.then {l : List Env} {fl : Value} {h₁ h₂ h₃ : Heap} (u : h₁.UpToSlots h₂) (x : PutD base l e cls dx fl h₂ h₃) : PutD base l e cls dx fl h₁ h₃ := ⟨x.1, x.2.1, x.2.2.1, u.trans x.2.2.2⟩

/-- noteFrame where e bears no entry yet -/
theorem noteFirst {oe : Obj} {vs : Array Value}
    (hfr : A.frames = some (env :: outer)) (hl : s.heap.FunFrames base (env :: outer)) (hf : env.frame = some L)
    (he : s.heap.get? e = some oe) (hkb : base.StaysIn s.heap) (hen : base.get? e = none) (hdx : oe.dict = some dx) (hd : oe.data = .fields vs) (h1 : vs[1]? = some .none)
    (h : ∀ h', PutD base (env :: outer) e oe.cls dx (rawInt L) s.heap h' → Q () { s with heap := h' }) : wpAny M A (noteFrame (.ref e) env) Q E s := by
  unfold noteFrame
  simp only [hf]
  refine wpAny_bind (wpAny_field he hd h1 ?_)
  rw [if_neg (by decide)]
  exact putEntry hfr hl hf he hkb hen hdx hd (Array.getElem?_eq_some_iff.mp h1).1 h

/-- noteFrame where the head entry is another frame's -/
theorem noteNext (hfr : A.frames = some (env :: outer)) (hl : s.heap.FunFrames base (env :: outer)) (hf : env.frame = some L) (ht : TrD s.heap base e cls dx .none) (hkb : base.StaysIn s.heap) (hen : base.get? e = none)
    (h : ∀ h', PutD base (env :: outer) e cls dx (rawInt L) s.heap h' → Q () { s with heap := h' }) : wpAny M A (noteFrame (.ref e) env) Q E s := by
  obtain ⟨oe, vs, T, oT, ts, he, ⟨hcls, hdx⟩, hd, h1, hnT, hTe, hT, hdT, h3⟩ := ht
  subst hcls
  unfold noteFrame
  simp only [hf]
  refine wpAny_bind (wpAny_field he hd h1 ?_)
  rw [if_pos (show (Value.ref T != Value.none) = true from by simp)]
  refine wpAny_bind (wpAny_field hT hdT h3 ?_)
  rw [if_neg (show ¬ ((Value.none == rawInt L) = true) from by simp [rawInt])]
  refine wpAny_bind (wpAny_setField hT hdT (Array.getElem?_eq_some_iff.mp h3).1 ?_)
  have other : ∀ b, b ≠ T → (s.heap.update T (Obj.mapFields (·.setIfInBounds 3 Value.none))).get? b = s.heap.get? b := fun b hb => Heap.get?_update_other _ _ (Ne.symm hb)
  have notT : ∀ b o, s.heap.get? b = some o → (∀ ws, o.data ≠ .fields ws) → b ≠ T := fun b o hb hnf q => by
    rw [q, hT] at hb
    cases hb
    exact hnf ts hdT
  refine putEntry hfr (hl.of_keeps fun b o hb hnf => ⟨o, (other b (notT b o hb hnf)).trans hb, rfl⟩) hf ((other e (Ne.symm hTe)).trans he)
    (fun b o hb => (other b fun q => by rw [q, hnT] at hb; cases hb).trans (hkb b o hb)) hen hdx hd (Array.getElem?_eq_some_iff.mp h1).1
    fun h' hp => h h' (PutD.then (fun b o hb hnf => ⟨o.slots, (other b (notT b o hb hnf)).trans hb⟩) hp)

/-- noteFrame where the head entry is this frame's -/
theorem noteSame (hf : env.frame = some L) (ht : TrD s.heap base e cls dx (rawInt L)) (h : Q () s) : wpAny M A (noteFrame (.ref e) env) Q E s := by
  obtain ⟨oe, vs, T, oT, ts, he, _, hd, h1, _, _, hT, hdT, h3⟩ := ht
  unfold noteFrame
  simp only [hf]
  refine wpAny_bind (wpAny_field he hd h1 ?_)
  rw [if_pos (show (Value.ref T != Value.none) = true from by simp)]
  refine wpAny_bind (wpAny_field hT hdT h3 ?_)
  rw [if_pos (show (rawInt L == rawInt L) = true from by simp)]
  exact wpAny_pure h

/-- the frame that raised is left -/
theorem leaveFirst {oe : Obj} {vs : Array Value}
    (hfr : A.frames = some (env :: outer)) (hl : s.heap.FunFrames base (env :: outer)) (hf : env.frame = some L)
    (he : s.heap.get? e = some oe) (hkb : base.StaysIn s.heap) (hen : base.get? e = none) (hdx : oe.dict = some dx) (hd : oe.data = .fields vs) (h1 : vs[1]? = some .none)
    (h : ∀ h', FlyD base outer e oe.cls dx h' → s.heap.UpToSlots h' → Q () { s with heap := h' }) : wpAny M A (leaving env (.ref e)) Q E s := by
  unfold leaving
  refine wpAny_bind (noteFirst hfr hl hf he hkb hen hdx hd h1 fun h' ⟨x1, x2, x3, x4⟩ => ?_)
  exact wipe (s := { s with heap := h' }) x1 x2 x3 fun h'' ⟨y1, y2, y3, y4⟩ => h h'' ⟨y1, hen, y2.2.2, y3⟩ (x4.trans y4)

/-- a frame that it passes is left -/
theorem leaveNext (hfr : A.frames = some (env :: outer)) (hf : env.frame = some L) (hfl : FlyD base (env :: outer) e cls dx s.heap)
    (h : ∀ h', FlyD base outer e cls dx h' → s.heap.UpToSlots h' → Q () { s with heap := h' }) : wpAny M A (leaving env (.ref e)) Q E s := by
  obtain ⟨f1, f2, f3, f4⟩ := hfl
  unfold leaving
  refine wpAny_bind (noteNext hfr f3 hf f4 f1 f2 fun h' ⟨x1, x2, x3, x4⟩ => ?_)
  exact wipe (s := { s with heap := h' }) x1 x2 x3 fun h'' ⟨y1, y2, y3, y4⟩ => h h'' ⟨y1, f2, y2.2.2, y3⟩ (x4.trans y4)

/-- the frame that catches looks at it -/
theorem lookD (hfr : A.frames = some (env :: outer)) (hf : env.frame = some L) (hfl : FlyD base (env :: outer) e cls dx s.heap)
    (h : ∀ h', HoldD base (env :: outer) e cls dx L h' → s.heap.UpToSlots h' → Q () { s with heap := h' }) : wpAny M A (noteFrame (.ref e) env) Q E s := by
  obtain ⟨f1, f2, f3, f4⟩ := hfl
  exact noteNext hfr f3 hf f4 f1 f2 fun h' ⟨x1, x2, x3, x4⟩ => h h' ⟨x1, f2, x2, x3⟩ x4

theorem landD {l : List Env} (hh : HoldD base l e cls dx L s.heap) (h : ∀ h', FlyD base l e cls dx h' → s.heap.UpToSlots h' → Q () { s with heap := h' }) : wpAny M A (setFlight (.ref e) none) Q E s := by
  obtain ⟨f1, f2, f3, f4⟩ := hh
  exact wipe f1 f3 f4 fun h' ⟨y1, y2, y3, y4⟩ => h h' ⟨y1, f2, y2, y3⟩ y4

theorem landAgain {l : List Env} (hh : FlyD base l e cls dx s.heap) (h : ∀ h', FlyD base l e cls dx h' → s.heap.UpToSlots h' → Q () { s with heap := h' }) : wpAny M A (setFlight (.ref e) none) Q E s := by
  obtain ⟨f1, f2, f3, f4⟩ := hh
  exact wipe f1 f3 f4 fun h' ⟨y1, y2, y3, y4⟩ => h h' ⟨y1, f2, y2, y3⟩ y4
end
end Mine
end

section
open PySem PySem.W PyProof.Rows PySem.Calls
set_option Elab.async false
set_option maxRecDepth 100000
namespace Mine

/-- e (class cls, its dict at dx like od) goes up through the frames l; G is the ground of the call that it left; news is kept -/
def FliesD (base G : Heap) (l : List Env) (e : Addr) (cls : Value) (dx : Addr) (od : Obj) (news : List (Addr × Obj)) (h : Heap) : Prop :=
  ∃ B, base.StaysIn B ∧ (∀ b o, G.get? b = some o → b ∉ l.filterMap (·.frame) → B.get? b = some o) ∧ (∀ q ∈ news, B.get? q.1 = some q.2 ∧ G.get? q.1 = none ∧ base.get? q.1 = none) ∧
    FlyD B l e cls dx h ∧ B.get? dx = none ∧ dx ∉ l.filterMap (·.frame) ∧ ∃ sl, h.get? dx = some { od with slots := sl }

theorem FliesD.less {base G : Heap} {l : List Env} {e dx : Addr} {cls : Value} {od : Obj} {news news' : List (Addr × Obj)} {h : Heap} (R : FliesD base G l e cls dx od news h) (hs : ∀ p ∈ news', p ∈ news) : FliesD base G l e cls dx od news' h := by
  obtain ⟨B, h1, h2, h3, h4⟩ := R
  exact ⟨B, h1, h2, fun q hq => h3 q (hs q hq), h4⟩

structure MadeD (h h' : Heap) (e : Addr) (cls : Value) (dx : Addr) (od : Obj) : Prop where
  keeps : ∀ b o, h.get? b = some o → h'.get? b = some o
  newE : h.get? e = none
  newD : h.get? dx = none
  objE : ∃ oe vs, h'.get? e = some oe ∧ oe.cls = cls ∧ oe.dict = some dx ∧ oe.data = .fields vs ∧ vs[1]? = some .none
  objD : h'.get? dx = some od

theorem upSlots {h h' : Heap} {b : Addr} {od : Obj} (x : ∃ sl, h.get? b = some { od with slots := sl }) (hd : ∀ vs, od.data ≠ .fields vs) (u : h.UpToSlots h') : ∃ sl, h'.get? b = some { od with slots := sl } := by
  obtain ⟨sl, hs⟩ := x
  obtain ⟨sl', hs'⟩ := u b _ hs hd
  exact ⟨sl', hs'⟩

section
variable {M : Model} {A : Around} {E : Value → Shared → Prop} {s' : Shared} {base g g₂ h : Heap} {outer : List Env} {L a e dx : Addr} {cls : Value} {od : Obj} {m : Str → Option Value} {name : Str} {scope : Scope} {cd : Value} {Q : Unit → Shared → Prop} {news : List (Addr × Obj)}

theorem leaveRaiseD (K : Below A base outer g) (hx : MadeD h s'.heap e cls dx od) (hod : ∀ vs, od.data ≠ .fields vs) (F : Fr g L h m) (N : News g L h news)
    (hQ : ∀ h', FliesD base g outer e cls dx od news h' → g.UpToSlots h' → Q () { s' with heap := h' }) (hk : scope.kind = .function := by rfl) :
    wpAny M (A.deeper (envOf name scope L a cd)) (leaving (envOf name scope L a cd) (.ref e)) Q E s' := by
  have K' := K.push (name := name) (a := a) (cd := cd) F hk
  have hin : ∀ env ∈ (envOf name scope L a cd :: outer), ∀ b, env.frame = some b → b ∈ (envOf name scope L a cd :: outer).filterMap (·.frame) := fun env he b hb => List.mem_filterMap.mpr ⟨env, he, hb⟩
  have st : base.StaysIn (hideAll h ((envOf name scope L a cd :: outer).filterMap (·.frame))) := fun b o q => hideAll_get _ (K'.stays b o q) fun hm => by
    rw [(K'.frames.mem hm).1] at q; cases q
  have sg : ∀ b o, g.get? b = some o → b ∉ outer.filterMap (·.frame) → (hideAll h ((envOf name scope L a cd :: outer).filterMap (·.frame))).get? b = some o := fun b o q nm => hideAll_get _ (F.keep b o q) fun hm => by
    rcases kts_mem hm with z | z
    · rw [z, kts_self F] at q
      cases q
    · exact nm z
  have hl : ∀ q ∈ news, (hideAll h ((envOf name scope L a cd :: outer).filterMap (·.frame))).get? q.1 = some q.2 ∧ g.get? q.1 = none ∧ base.get? q.1 = none := fun q hq => by
    refine ⟨hideAll_get _ (N q hq).1 fun hm => ?_, (N q hq).2.2, fresh_of_stays K.stays (N q hq).2.2⟩
    obtain ⟨env, he, hf⟩ := List.mem_filterMap.mp hm
    rcases List.mem_cons.mp he with rfl | he
    · exact (N q hq).2.1 (Option.some.inj hf).symm
    · obtain ⟨o, ho, _⟩ := (K.frames.mem (List.mem_filterMap.mpr ⟨env, he, hf⟩)).2
      rw [(N q hq).2.2] at ho; cases ho
  have hk1 : ∀ b o, (hideAll h ((envOf name scope L a cd :: outer).filterMap (·.frame))).get? b = some o → s'.heap.get? b = some o := fun b o q => hx.keeps b o (of_hideAll _ q)
  have hn : ∀ b, h.get? b = none → (hideAll h ((envOf name scope L a cd :: outer).filterMap (·.frame))).get? b = none := fun b hb => by
    cases q : (hideAll h ((envOf name scope L a cd :: outer).filterMap (·.frame))).get? b with
    | none => rfl
    | some o => have := of_hideAll _ q; rw [hb] at this; cases this
  obtain ⟨oe, vs, he, hc, hd, hv, h1⟩ := hx.objE
  refine leaveFirst K'.stack ((funFrames_hide K'.frames hin).of_keeps fun b o hb _ => ⟨o, hx.keeps b o hb, rfl⟩) rfl he hk1 (hn e hx.newE) hd hv h1 fun h' x1 x2 => ?_
  rw [hc] at x1
  have hdl : dx ∉ outer.filterMap (·.frame) := fun hm => by
    obtain ⟨_, o, ho, _⟩ := K.frames.mem hm
    have := F.keep _ _ ho
    rw [hx.newD] at this
    cases this
  exact hQ h' ⟨_, st, sg, hl, x1, hn dx hx.newD, hdl, upSlots ⟨od.slots, hx.objD⟩ hod x2⟩ (((Heap.UpToSlots.of_keeps F.keep).trans (Heap.UpToSlots.of_keeps hx.keeps)).trans x2)

theorem leaveOnD (K : Below A base outer g) (F : Fr g L g₂ m) (R : FliesD base g₂ (envOf name scope L a cd :: outer) e cls dx od news s'.heap) (hod : ∀ vs, od.data ≠ .fields vs) (hsm : g₂.UpToSlots s'.heap)
    (hQ : ∀ h', FliesD base g outer e cls dx od news h' → g.UpToSlots h' → Q () { s' with heap := h' }) :
    wpAny M (A.deeper (envOf name scope L a cd)) (leaving (envOf name scope L a cd) (.ref e)) Q E s' := by
  obtain ⟨B, hB, hBG, hl, hfl, hnew, hdl, hdx⟩ := R
  exact leaveNext (Around.frames_deeper K.stack) rfl hfl fun h' x1 x2 =>
    hQ h' ⟨B, hB, fun b o q nm => hBG b o (F.keep b o q) (fun hm => by
      rcases kts_mem hm with z | z
      · rw [z, kts_self F] at q
        cases q
      · exact nm z), fun q hq => ⟨(hl q hq).1, kts_none F.keep (hl q hq).2.1, (hl q hq).2.2⟩, x1, hnew, fun z => hdl (List.mem_filterMap.mpr (let ⟨v, hv, e⟩ := List.mem_filterMap.mp z; ⟨v, .tail _ hv, e⟩)), upSlots hdx hod x2⟩ ((Heap.UpToSlots.of_keeps F.keep).trans (hsm.trans x2))
end

section
variable {prog : Program} {w : World} {A₀ : Around} {E : Value → Shared → Prop} {s' : Shared} {base g G : Heap} {outer : List Env} {L a e dx C : Addr} {od : Obj} {m : Str → Option Value} {name : Str} {scope : Scope} {cd : Value}
  {n : Str} {b₀ : Stmt} {suite : List Stmt} {pos np : Pos} {rest : List ExceptHandler} {Q : Flow → Shared → Prop} {news : List (Addr × Obj)} {KF : Frag}
  {p : Program} {loose : List Str} {mean : ExcName → Option Value} {mg mb : Str → Option Value} {x : Str}

theorem caughtD (R : FliesD base G (envOf name scope L a cd :: outer) e (.ref C) dx od news s'.heap) (hod : ∀ vs, od.data ≠ .fields vs) (F : Fr g L G m) (K : Below A₀ base outer g) (hsm : G.UpToSlots s'.heap) (XB : KF.In base) (TB : Top p loose mean mg mb base)
    (D : KtsDicts (outer.filterMap (·.frame)) g)
    (ex : nsIn KF mainGlobals x = some (some (.ref C))) (q : ktsIn KF C "BaseException" = true)
    (k : ∀ h' g' oe sl vs tk, KtsTurn (outer.filterMap (·.frame)) g g' → Fr g' L h' (fun y => if y = n then some (.ref e) else m y) → News g' L h' ((e, oe) :: (dx, { od with slots := sl }) :: news) → oe.cls = .ref C → oe.dict = some dx → oe.data = .fields vs →
      Below A₀ base outer g' → KF.In g' → Top p loose mean mg mb g' →
      wpAny (model prog w) ((A₀.deeper (envOf name scope L a cd)).mark (some (.ref e))) (execs (b₀ :: suite) (envOf name scope L a cd))
        (fun f s₄ => wpAny (model prog w) (A₀.deeper (envOf name scope L a cd)) (do bindName (envOf name scope L a cd) n .none; unbindBehindTheSuite (envOf name scope L a cd) n pos) (fun _ s₅ => Q f s₅) E s₄)
        (AsSuiteRaised (model prog w) ((A₀.deeper (envOf name scope L a cd)).mark (some (.ref e))) (envOf name scope L a cd) n pos (notedBy (model prog w) ((A₀.deeper (envOf name scope L a cd)).mark (some (.ref e))) (envOf name scope L a cd) (cameBackBy (model prog w) (A₀.deeper (envOf name scope L a cd)) (envOf name scope L a cd) E)))
        { s' with heap := h', toks := tk })
    (hk : scope.kind = .function := by rfl) (hlo : (envOf name scope L a cd).kindOf n = some .local := by rfl) (hx : (envOf name scope L a cd).kindOf x = some .globalImplicit := by rfl) (hd : (x == ("__debug__" : Str)) = false := by decide) :
    wpAny (model prog w) (A₀.deeper (envOf name scope L a cd)) (noteFrame (.ref e) (envOf name scope L a cd))
      (fun _ s₂ => wpAny (model prog w) (A₀.deeper (envOf name scope L a cd)) (setFlight (.ref e) none) (fun _ s₃ =>
        wpAny (model prog w) (A₀.deeper (envOf name scope L a cd)) (handleBy (.ref e) (envOf name scope L a cd) (.ExceptHandler (some (.Name x np)) (some n) (b₀ :: suite) pos :: rest)) Q E s₃) E s₂) E s' := by
  obtain ⟨B, hB, hBG, hl, hfl, hnew, hdl, hdx⟩ := R
  have hL : B.get? L = none := by
    obtain ⟨_, ⟨L', _, hf, hn', _⟩, _⟩ := hfl.2.2.1
    obtain rfl : L = L' := Option.some.inj hf
    exact hn'
  refine lookD (Around.frames_deeper K.stack) rfl hfl fun h₄ hheld₄ hsm₄ => ?_
  refine landD (s := { s' with heap := h₄ }) hheld₄ fun h₅ hheld hsm₅' => ?_
  have hsm₅ := hsm₄.trans hsm₅'
  obtain ⟨g₅, T₅, F₅, K₅⟩ := kts_ground K F hBG hheld.1 (hsm.trans hsm₅)
  have X₅ : KF.In g₅ := XB.keeps K₅.stays
  have P₅ : TopRead p loose mg mb g₅ := topRead_of (TB.keeps K₅.stays)
  obtain ⟨ob, _, hob, hobc, _, _⟩ := hheld.2.2.2.obj
  obtain ⟨nm, q', N, bs, bm, hdct, sn, sub, ab, col, dd, k0, k1, k2, k3, k5, newId, hC, hbase, hbT⟩ := kts_cls X₅ q
  have hC₅ := F₅.keep _ _ hC
  refine wpAny_handleBy_cons (codeAny_handlers_test (name_K (s := { s' with heap := h₅ }) F₅ X₅ P₅ ex ?_ hk hx hd)) (by intro q; cases q)
  refine wpAny_excMatches_sub_self hC₅ hob hobc hbase (codeAny_handlers_suite_as ?_)
  refine landAgain (s := { s' with heap := h₅ }) hheld fun h₆ hfl₆ hsm₆ => ?_
  obtain ⟨g₆, T₆, F₆, K₆⟩ := kts_ground K F hBG hfl₆.1 ((hsm.trans hsm₅).trans hsm₆)
  obtain ⟨oe, ws, hoe, hoec, hoedx, hoed⟩ := hfl₆.2.2.2.obj
  obtain ⟨sl, hdx₆⟩ := upSlots hdx hod (hsm₅.trans hsm₆)
  have ne₆ : g₆.get? e = none := T₆.none_ _ (kts_fresh F hBG hfl₆.2.1 fun o ho m => by
    obtain ⟨_, o', ho', hd⟩ := K.frames.mem m
    rw [ho] at ho'
    cases ho'
    obtain ⟨sl, hs⟩ := ((hsm.trans hsm₅).trans hsm₆) _ _ (F.keep _ _ ho) hd
    rw [hoe] at hs
    cases hs
    exact hd _ hoed)
  have nd₆ : g₆.get? dx = none := T₆.none_ _ (kts_fresh F hBG hnew fun o ho m => hdl (List.mem_filterMap.mpr (let ⟨v, hv, e⟩ := List.mem_filterMap.mp m; ⟨v, .tail _ hv, e⟩)))
  have Nl : News g₆ L h₆ news := fun q hq => ⟨hfl₆.1 _ _ (hl q hq).1, (fun z => by have := (hl q hq).1; rw [z, hL] at this; cases this), T₆.none_ _ (kts_none F.keep (hl q hq).2.1)⟩
  have neL : e ≠ L := fun z => by
    obtain ⟨o, es, ep, ho, hd', _⟩ := F₆.ns
    rw [← z, hoe] at ho
    cases ho
    rw [hoed] at hd'
    cases hd'
  have X₆ : KF.In g₆ := XB.keeps K₆.stays
  have P₆ : Top p loose mean mg mb g₆ := TB.keeps K₆.stays
  have ndL : dx ≠ L := fun z => hdl (List.mem_filterMap.mpr ⟨envOf name scope L a cd, .head _, by rw [z]; rfl⟩)
  have N₆ : News g₆ L h₆ ((e, oe) :: (dx, { od with slots := sl }) :: news) := fun p hp => by
    rcases List.mem_cons.mp hp with rfl | hp
    · exact ⟨hoe, neL, ne₆⟩
    rcases List.mem_cons.mp hp with rfl | hp
    · exact ⟨hdx₆, ndL, nd₆⟩
    exact Nl p hp
  refine stN (s := { s' with heap := h₆ }) F₆ N₆ (fun h₇ F₇ N₇ => ?_) hk hlo
  exact k h₇ g₆ _ _ _ _ T₆ F₇ N₇ hoec hoedx hoed K₆ X₆ P₆
end
end Mine
end

section
open PySem PySem.W PyProof.Rows PySem.Calls
open Builtin Builtin.ObjectAttr
set_option Elab.async false
set_option maxRecDepth 100000
namespace Mine

/-- the mro is own classes, then Exception's -/
def excMro : List Value → Bool
  | [.type a, .type b, .type c] => a == "Exception" && b == "BaseException" && c == "object"
  | .ref _ :: r => excMro r
  | _ => false
theorem excMro_refuse (self : Value) : ∀ {l : List Value}, excMro l = true → refuseLoop self "__setattr__" l = pure ()
  | [.type a, .type b, .type c], e => by
    simp only [excMro, Bool.and_eq_true, beq_iff_eq] at e
    obtain ⟨⟨rfl, rfl⟩, rfl⟩ := e
    exact PySem.F.store_Exception.passes self
  | .ref c :: r, e => by rw [refuseLoop_ref]; exact excMro_refuse self (l := r) (by simpa [excMro] using e)
theorem excMro_has : ∀ {l : List Value}, excMro l = true → l.contains (.type "object") = true
  | [.type a, .type b, .type c], e => by
    simp only [excMro, Bool.and_eq_true, beq_iff_eq] at e
    obtain ⟨⟨rfl, rfl⟩, rfl⟩ := e
    simp
  | .ref c :: r, e => by rw [List.contains_cons, excMro_has (l := r) (by simpa [excMro] using e), Bool.or_true]
def excOver (K : Frag) (C : Addr) : Bool := (clsIn K C).any fun cd => excMro cd.mro && cd.hasDict

section
variable {prog : Program} {w : World} {A : Around} {E : Value → Shared → Prop} {s : Shared} {K : Frag} {x C L : Addr} {h₀ : Heap} {m : Str → Option Value} {news : List (Addr × Obj)} {name : Str} {v : Value} {vs : Array Value} {sl : Array (Option Value)} {Q : Unit → Shared → Prop} {R : Result → Shared → Prop} {tk : Tok}

theorem putEmpty (hs : Int) (key v : Value) : Obj.putName name hs key v (dictOf [] 0) = dictOf [⟨hs, key, v⟩] 1 := putName_dict name hs key v [] 0

theorem osa_exc (F : Fr h₀ L s.heap m) (X : K.In s.heap) (N : News h₀ L s.heap ((x, (⟨.ref C, none, .fields vs, sl⟩ : Obj)) :: news)) (hn : ∀ p ∈ news, p.1 ≠ x) (hp : excOver K C = true) (ht : takerIn K C name = some none)
    (h : ∀ h' k, Fr h₀ L h' m → News h₀ L h' ((x, (⟨.ref C, some s.heap.objs.size, .fields vs, sl⟩ : Obj)) :: (s.heap.objs.size, dictOf [⟨PyData.keyHash w.params name, .str name s.toks, v⟩] 1) :: news) → R (.ok (.ret .none)) { s with heap := h', toks := k }) :
    codeAny (model prog w) A (.call (.builtin "object.__setattr__") ⟨[.ref x, .str name tk, v], []⟩) R s := by
  obtain ⟨hh, gg, dr, t, os⟩ := s
  dsimp only at F X N h
  have hx := (N _ (.head _)).1
  have I : InstAt hh x ⟨.ref C, none, .fields vs, sl⟩ C none := ⟨hx, rfl, rfl, trivial⟩
  have SF := PySem.F.store_object
  obtain ⟨cd, hc, hok⟩ := any_some hp
  obtain ⟨ho, hdct⟩ := Bool.and_eq_true_iff.mp hok
  have ne : cd.mro.isEmpty = false := by cases q : cd.mro with | nil => rw [q] at ho; cases ho | cons _ _ => rfl
  have L0 := I.type (M := model prog w)
  have sub : Looks (model prog w) hh (isInstance (.ref x) (.type "object")) true := L0.andThen (looks_mroIn X (by unfold mroIn; rw [hc, Option.bind_some, if_neg (by rw [ne]; decide), excMro_has ho]))
  refine codeAny_call_builtin SF.slot.plain SF.entry (@check_slot (model prog w) _ _ _ "object.__setattr__" "object" "__setattr__" (.ref x) [.str name tk, v] [] _ SF.kind SF.split sub (SF.args (.ref x) (.str name tk) v) ?_)
  obtain ⟨attr, ha, hr⟩ := Option.bind_eq_some_iff.mp ht
  have hm : Looks (model prog w) hh (mroOf (.ref C)) cd.mro := (looks_clsIn X hc).andThen .now
  have hcl := looks_clsIn (M := model prog w) X hc
  have hla := looks_findIn (M := model prog w) X ha
  have L3 : Looks (model prog w) hh (storeTaker? attr) none := by
    cases attr with
    | none => exact .now
    | some a =>
      obtain ⟨b, hb, hr⟩ := Option.map_eq_some_iff.mp hr
      refine (looks_takesIn X hb).andThen ?_
      cases b
      · exact .now
      · cases hr
  rw [osa_eq, refuse_eq]
  refine wpAny_bind (wpAny_bind (L0.at (wpAny_bind (hm.at ?_))))
  rw [excMro_refuse _ ho]
  refine wpAny_pure (wpAny_bind (L0.at (wpAny_bind (hla.at (wpAny_bind (L3.at ?_))))))
  show wpAny _ _ (storeInOwnDict _ _ _ _ _ _) _ _ _
  unfold storeInOwnDict
  refine wpAny_bind (wpAny_pure ?_)
  refine wpAny_bind ?_
  unfold ownDictForStores instanceDict
  refine wpAny_bind (wpAny_loadPart hx ?_)
  dsimp only
  refine wpAny_bind (hcl.at ?_)
  rw [hdct]
  have hx₁ : (hh.push (dictOf [] 0)).get? x = some ⟨.ref C, none, .fields vs, sl⟩ := Heap.get?_push_of_some _ hx
  rw [if_neg (by decide), if_neg (by simp [typeHasDict])]
  have hxs : x ≠ hh.objs.size := Nat.ne_of_lt (Heap.lt_size hx)
  refine wpAny_bind (wpAny_alloc (wpAny_bind (wpAny_update hx₁ ?_)))
  refine wpAny_pure (a := some hh.objs.size) ?_
  have F₁ : Fr h₀ L (hh.push (dictOf [] 0)) m := F.push _
  have N₁ := N.push F (dictOf [] 0)
  obtain ⟨F₂, N₂⟩ := news_upd (pre := [(hh.objs.size, dictOf [] 0)]) (o' := ⟨.ref C, some hh.objs.size, .fields vs, sl⟩) (f := fun o => { cls := o.cls, dict := some hh.objs.size, data := o.data, slots := o.slots }) F₁ N₁ (fun p hp => by rw [List.mem_singleton.mp hp]; exact hxs.symm) hn rfl rfl
  have D := (N₂ (hh.objs.size, dictOf [] 0) (.head _)).1
  show wpAny _ _ (storeInDict hh.objs.size (.str name tk) name v) _ _ _
  unfold storeInDict newKeyGuard
  refine wpAny_bind (wpAny_pure (wpAny_bind ?_))
  unfold nsSet
  refine wpAny_bind (wpAny_bind (wpAny_askSetting (wpAny_pure (wpAny_bind (wpAny_mkText (wpAny_bind (wpAny_loadPart D ?_)))))))
  obtain ⟨F₃, N₃⟩ := news_upd (pre := [(x, (⟨.ref C, some hh.objs.size, .fields vs, sl⟩ : Obj))]) (o' := dictOf [⟨PyData.keyHash w.params name, .str name t, v⟩] 1) (f := Obj.putName name (PyData.keyHash w.params name) (.str name t) v) F₂
    (show News h₀ L _ ([(x, (⟨.ref C, some hh.objs.size, .fields vs, sl⟩ : Obj))] ++ (hh.objs.size, dictOf [] 0) :: news) from fun p hp => N₂ p (by
      rcases List.mem_cons.mp hp with h1 | h1
      · exact .tail _ (h1 ▸ .head _)
      · rcases List.mem_cons.mp h1 with h2 | h2
        · exact h2 ▸ .head _
        · exact .tail _ (.tail _ h2)))
    (fun p hp => by rw [List.mem_singleton.mp hp]; exact hxs) (fun p hp => Nat.ne_of_lt (Heap.lt_size (N p (.tail _ hp)).1)) (putEmpty _ _ _) rfl
  have D₃ := (N₃ (hh.objs.size, dictOf [⟨PyData.keyHash w.params name, .str name t, v⟩] 1) (.tail _ (.head _))).1
  dsimp only
  have c : (!(([] : List DictEntry).toArray.any (·.key.isStr name)) && ([] : List DictEntry).toArray.any (·.refKey)) = false := by simp
  rw [aRefKeyMayBeTheName_at, c]
  refine wpAny_updatePart D ?_
  refine wpAny_bind (wpAny_lookBehind D₃ (pastItsLine_dict (by simp [PySem.sizeLine_eq])) ?_)
  exact wpAny_pure (h _ _ F₃ N₃)

theorem set_exc (F : Fr h₀ L s.heap m) (X : K.In s.heap) (N : News h₀ L s.heap ((x, (⟨.ref C, none, .fields vs, sl⟩ : Obj)) :: news)) (hn : ∀ p ∈ news, p.1 ≠ x)
    (hs : findIn K (.ref C) "__setattr__" = some (some (.builtin "object.__setattr__"))) (hp : excOver K C = true) (ht : takerIn K C name = some none)
    (h : ∀ dx h' k u, Fr h₀ L h' m → News h₀ L h' ((x, (⟨.ref C, some dx, .fields vs, sl⟩ : Obj)) :: (dx, dictOf [⟨PyData.keyHash w.params name, .str name u, v⟩] 1) :: news) → (∀ p ∈ news, p.1 < dx) → x < dx → Q () { s with heap := h', toks := k }) :
    wpAny (model prog w) A (setAttr (.ref x) name v) Q E s := by
  have hx := (N _ (.head _)).1
  refine set_plain (od := none) X ⟨hx, rfl, rfl, trivial⟩ hs ?_
  exact osa_exc (s := { s with toks := s.toks + 1 }) F X N hn hp ht fun h' k F' N' => h _ h' k _ F' N' (fun p hp => Heap.lt_size (N p (.tail _ hp)).1) (Heap.lt_size hx)
end

section
variable {prog : Program} {w : World} {A : Around} {E : Value → Shared → Prop} {h : Heap} {g : Array GenState} {d : Drawn} {t : Nat} {os : OsState}
variable {nm q : Str} {C N : Addr} {bs bm bmB : List Value} {hdct : Bool} {sn : List Str} {sub : List Value} {ab : Bool} {col : Option Bool} {dd : Option Addr} {k0 k1 k2 k3 k5 : Option Value} {B newId initId : String}

theorem type_call_initT (F : ExcBaseFacts B newId initId bmB) (T : OwnTail h bmB bm) {mN : Str → Option Value} {rest : List Value} {fI : Addr} {oI : Obj} {Q : Fin → Shared → Prop}
    (hC : h.get? C = some (excClassObj nm q C N bs bm hdct sn sub ab col dd k0 k1 k2 k3 k5 newId)) (hn : h.Ns N mN) (hi : mN "__init__" = some (.ref fI))
    (hfI : h.get? fI = some oI) (hfc : oI.cls = .type "function")
    (hq : ∀ h' e, Heap.MadeExcOf h h' e (.ref C) rest →
      wpAny (model prog w) A (call (.ref fI) (.ref e :: rest)) (fun r s' => r = .none ∧ Q (.done (.ret (.ref e))) s') E ⟨h', g, d, t, os⟩) (hrest : rest.length ≤ sizeLine := by size_fits) :
    wpAny (model prog w) A (Builtin.«type.__call__» ⟨.ref C :: rest, []⟩) Q E ⟨h, g, d, t, os⟩ := by
  repeat (first | with_reducible refine wpAny_loadPart_at hC ?_ | with_reducible refine wpAny_madeBy_exc hC ?_ | wp_step)
  refine codeAny_call_builtin_code (Code.quiet_builtin _ F.quiet) (wpAny_check_new_subT F T hC ?_)
  refine codeAny_exc_new_subT F T hC ?_ hrest
  show wpAny _ _ _ _ _ _
  have two : ∀ (o₁ o₂ : Obj) b o, h.get? b = some o → ((h.push o₁).push o₂).get? b = some o := fun _ _ b o e => Heap.get?_push_of_some _ (Heap.get?_push_of_some _ e)
  have hC₁ := two { cls := .type "tuple", data := .seq rest.toArray } { cls := .ref C, data := .fields #[.ref h.objs.size, .none, .none, .none, .bool false, .none] } _ _ hC
  have hfI₁ := two { cls := .type "tuple", data := .seq rest.toArray } { cls := .ref C, data := .fields #[.ref h.objs.size, .none, .none, .none, .bool false, .none] } _ _ hfI
  have hn₁ := hn.keeps (two { cls := .type "tuple", data := .seq rest.toArray } { cls := .ref C, data := .fields #[.ref h.objs.size, .none, .none, .none, .bool false, .none] })
  have T₁ := T.keeps (two { cls := .type "tuple", data := .seq rest.toArray } { cls := .ref C, data := .fields #[.ref h.objs.size, .none, .none, .none, .bool false, .none] })
  have hget : ((h.push { cls := .type "tuple", data := .seq rest.toArray }).push
      { cls := .ref C, data := .fields #[.ref h.objs.size, .none, .none, .none, .bool false, .none] }).get? (h.objs.size + 1) = some
      { cls := .ref C, data := .fields #[.ref h.objs.size, .none, .none, .none, .bool false, .none] } := by heap_get
  have hcC : (Value.ref C :: bm).contains (.ref C) = true := by simp
  unfold isInstance
  repeat (first | with_reducible refine wpAny_loadPart_at hget ?_ | (with_reducible refine wpAny_isSubtype_exc hC₁ ?_; rw [hcC]) | wp_step)
  show wpAny _ _ (typeLookup (.ref C) _) _ _ _
  refine wpAny_typeLookup_tail hC₁ hn₁ T₁ F.mroIs F.init.lookup ?_
  rw [hi]
  refine wpAny_holding (wpAny_bind ?_)
  unfold bindSpecial
  refine wpAny_bind (wpAny_typeOf (T := "function") ⟨_, hfI₁, hfc⟩ ?_)
  rw [if_pos (by decide)]
  refine wpAny_pure (wpAny_bind (wpAny_mono (hq _ (h.objs.size + 1) ⟨two _ _, Heap.get?_none_of_le (Nat.le_succ _), h.objs.size, hget, Heap.get?_none_of_le (Nat.le_refl _), ?_⟩) (fun r s' hr => ?_) fun _ _ x => x))
  · exact Heap.get?_push_of_some _ (Heap.get?_push_at rfl rfl)
  · obtain ⟨rfl, hQ⟩ := hr
    wp_walk
    exact hQ

theorem call_initT (F : ExcBaseFacts B newId initId bmB) (T : OwnTail h bmB bm) {mN : Str → Option Value} {rest : List Value} {fI : Addr} {oI : Obj} {Q : Value → Shared → Prop}
    (hC : h.get? C = some (excClassObj nm q C N bs bm hdct sn sub ab col dd k0 k1 k2 k3 k5 newId)) (hn : h.Ns N mN) (hi : mN "__init__" = some (.ref fI))
    (hfI : h.get? fI = some oI) (hfc : oI.cls = .type "function")
    (hq : ∀ h' e, Heap.MadeExcOf h h' e (.ref C) rest →
      wpAny (model prog w) (A.under (.builtin "type.__call__" ⟨.ref C :: rest, []⟩)) (call (.ref fI) (.ref e :: rest)) (fun r s' => r = .none ∧ Q (.ref e) s') E ⟨h', g, d, t, os⟩) (hrest : rest.length ≤ sizeLine := by size_fits) :
    wpAny (model prog w) A (call (.ref C) rest) Q E ⟨h, g, d, t, os⟩ := by
  have f1 := tc_lookup
  have f2 := tc_bind (.ref C)
  have hT : (⟨h, g, d, t, os⟩ : Shared).TypeIs (.ref C) "type" := ⟨_, hC, rfl⟩
  refine wpAny_call (codeAny_of_tree ?_)
  show wpAny _ _ (callAny (.ref C) _) _ _ _
  repeat (any_goals (first | assumption | with_reducible refine wpAny_loadPart_at hC ?_ | wp_step))
  refine ⟨rfl, ?_⟩
  refine codeAny_call_builtin_at (Code.quiet_builtin _ (by decide +kernel)) entry_typeCall (wpAny_check_type_call_sub hC (type_call_initT (hrest := hrest) F T hC hn hi hfI hfc fun h' e hm => ?_))
  exact hq h' e hm

theorem raiseStmtD {M : Model} {env : Env} {s : Shared} {x : Sem Value} {Q : Flow → Shared → Prop} (hbase : bm.contains (.type "BaseException") = true) (hh : A.handled = none)
    (h : wpAny M A x (fun v s₁ => ∃ e t dx, v = .ref e ∧ s₁.heap.get? C = some (excClassObj nm q C N bs bm hdct sn sub ab col dd k0 k1 k2 k3 k5 newId) ∧
      s₁.heap.get? e = some { cls := .ref C, dict := some dx, data := .fields #[.ref t, .none, .none, .none, .bool false, .none] } ∧ E (.ref e) s₁) E s) :
    wpAny M A (raiseStmt env (some x) none) Q E s := by
  have hcB : (Value.ref C :: bm).contains (.type "BaseException") = true := by rw [List.contains_cons, hbase, Bool.or_true]
  unfold raiseStmt
  refine wpAny_bind (wpAny_mono h (fun v s₁ h₁ => ?_) fun _ _ x => x)
  obtain ⟨e, t, dx, rfl, hC, he, hE⟩ := h₁
  obtain ⟨hp, g, d, tk, os⟩ := s₁
  repeat (first | with_reducible refine wpAny_loadPart_at he ?_ | with_reducible refine wpAny_loadPart_at hC ?_ | (with_reducible refine wpAny_isSubtype_exc hC ?_; rw [hcB]) | wp_step)
  exact wpAny_raiseNew_none hh hE
end
end Mine
end

section
open PySem PySem.W PyProof.Rows PySem.Calls
set_option Elab.async false
set_option maxRecDepth 100000
set_option maxHeartbeats 8000000
namespace Mine

theorem dummy : (fun (_ : OpenLaw) (_ : Params → Frag) => True) PySem.Challenge.rw_pq1399_01 hd.heap_39 := by
  k_fill
  trivial
abbrev Pr : Program := PySem.Challenge.rw_pq1399_01.row.prog
abbrev TopP (mg mb : Str → Option Value) (mean : ExcName → Option Value) (h : Heap) : Prop := Top hd.view_39 (looseW hd.view_39 [Str.ofString "MOST_PART"]) mean mg mb h
abbrev msgT : Str := Str.ofString "result is not exact"
abbrev excDict (w : World) (u u' : Tok) : Obj := dictOf [⟨PyData.keyHash w.params (Str.ofString "message"), .str (Str.ofString "message") u, .str msgT u'⟩] 1

theorem ns_of {K : Frag} {h : Heap} {N : Addr} {x : Str} {v : Value} (X : K.In h) (e : nsOkIn K N = true) (q : nsIn K N x = some (some v)) : h.nsMap N x = some v := by
  have G : h.Ns N (h.nsMap N) := .of_isNs (isNs_of_in X e)
  obtain ⟨o, es, ep, ho, hd, _, hf⟩ := G
  unfold nsIn at q
  split at q
  · rename_i c d es' n' sl z
    have := X _ _ z
    rw [ho] at this
    cases this
    cases hd
    split at q
    · rename_i en he
      cases q
      rw [← hf]
      unfold nsFind findBy
      rw [← Array.find?_toList, he]
      rfl
    · split at q <;> cases q
  · cases q

variable {w : World} {A₀ : Around} {base h₀ : Heap} {outer : List Env} {cn : Str} {cs : Scope} {L a : Addr} {ccd : Value} {s : Shared} {m mg mb : Str → Option Value} {mean : ExcName → Option Value} {news : List (Addr × Obj)} {E : Value → Shared → Prop}

theorem nsOk43 : nsOkIn (hd.heap_39 w.params) 43 = true := by kernel_rfl
theorem nsOk23 : nsOkIn (hd.heap_39 w.params) 23 = true := by kernel_rfl
theorem ns43 : nsIn (hd.heap_39 w.params) 43 (Str.ofString "__init__") = some (some (.ref 41)) := by k_is
theorem ns23 : nsIn (hd.heap_39 w.params) 23 (Str.ofString "__init__") = some none := by k_is
theorem nsRefusal : nsIn (hd.heap_39 w.params) mainGlobals (Str.ofString "Refusal") = some (some (.ref 44)) := by k_is
theorem set44 : findIn (hd.heap_39 w.params) (.ref 44) (Str.ofString "__setattr__") = some (some (.builtin "object.__setattr__")) := by k_is
theorem take44 : takerIn (hd.heap_39 w.params) 44 (Str.ofString "message") = some none := by k_is
theorem over44 : excOver (hd.heap_39 w.params) 44 = true := by kernel_rfl
theorem tail24 {h : Heap} (X : (hd.heap_39 w.params).In h) : OwnTail h [.type "Exception", .type "BaseException", .type "object"] [.ref 24, .type "Exception", .type "BaseException", .type "object"] := by
  refine' OwnTail.own (X _ _ ?h24) ?n ?i .base
  case h24 => k_is
  case n => exact Heap.Ns.of_isNs (isNs_of_in X nsOk23)
  case i => exact nsMap_none_of_in X nsOk23 ns23
theorem cls44 : ∃ nm q bs sn sub ab col dd k0 k1 k2 k3 k5, (hd.heap_39 w.params).lookup 44 = some (excClassObj nm q 44 43 bs [.ref 24, .type "Exception", .type "BaseException", .type "object"] true sn sub ab col dd k0 k1 k2 k3 k5 "Exception.__new__") := by
  refine ⟨_, _, _, _, _, _, _, _, _, _, _, _, _, show (hd.heap_39 w.params).lookup 44 = _ by k_is⟩

theorem raise_refusal {np cpos p pos : Pos} {k0 : Nat} {Q : Flow → Shared → Prop} (B : Below A₀ base outer h₀) (F : Fr h₀ L s.heap m) (X : (hd.heap_39 w.params).In h₀) (N : News h₀ L s.heap news) (T : TopP mg mb mean h₀)
    (hh : A₀.handled = none) (hroom : A₀.depth + 4 < recursionLimit) (hu : A₀.units + 20 < cLine) (hk : cs.kind = .function) (hx : (envOf cn cs L a ccd).kindOf (Str.ofString "Refusal") = some .globalImplicit)
    (h : ∀ e dx t h' tk u u', Fr h₀ L h' m → News h₀ L h' ((e, (⟨.ref 44, some dx, .fields #[.ref t, .none, .none, .none, .bool false, .none], #[]⟩ : Obj)) :: (dx, excDict w u u') :: news) → (∀ q ∈ news, q.1 ≠ e ∧ q.1 ≠ dx) → E (.ref e) { s with heap := h', toks := tk }) :
    wpAny (model PySem.Challenge.rw_pq1399_01.row.prog w) (A₀.deeper (envOf cn cs L a ccd)) (exec (.Raise (some (.Call (.Name (Str.ofString "Refusal") np) [.Constant (.str (Str.ofString "result is not exact")) k0 p] [] cpos)) none pos) (envOf cn cs L a ccd)) Q E s := by
  obtain ⟨nm, q, bs, sn, sub, ab, col, dd, s0, s1, s2, s3, s5, h44⟩ := cls44 (w := w)
  rw [arm_exec_Raise]
  simp only [evalOpt, Option.map]
  refine wpAny_bind (wpAny_standAt (raiseStmtD (C := 44) (nm := nm) (q := q) (N := 43) (bs := bs) (bm := [.ref 24, .type "Exception", .type "BaseException", .type "object"]) (hdct := true) (sn := sn) (sub := sub) (ab := ab) (col := col) (dd := dd) (k0 := s0) (k1 := s1) (k2 := s2) (k3 := s3) (k5 := s5) (newId := "Exception.__new__") (by decide) hh ?_))
  refine wpAny_bind (wpAny_mono (wpAny_Call_ofName (wpAny_mono (name_K (Q := fun f s₁ => f = .ref 44 ∧ s₁ = s) F X (topRead_of T) nsRefusal ⟨rfl, rfl⟩ hk hx (by decide)) (fun f s₁ h₁ => ?_) fun _ _ x => x)) (fun v s₃ h₃ => wpAny_bind (wpAny_standAt (wpAny_pure h₃))) fun _ _ x => x)
  obtain ⟨rfl, rfl⟩ := h₁
  refine callWith_K X (by k_is : keepIn (hd.heap_39 w.params) (.ref 44) = true) ?_
  refine spliced_more (Calls.Constant_str (spliced_none ?_))
  have X' := X.keeps F.keep
  refine ⟨X', ?_⟩
  obtain ⟨hp, g, d, tk, os⟩ := s₁
  dsimp only at F N X' h ⊢
  refine call_initT PySem.F.excBase_Exception (tail24 X') (X' _ _ h44) (Heap.Ns.of_isNs (isNs_of_in X' nsOk43)) (ns_of X' nsOk43 ns43) (X' 41 _ (by k_is)) rfl (fun h' e hm => ?_)
  obtain ⟨t, he, htn, ht⟩ := hm.there
  have F' : Fr h₀ L h' m := F.keeps hm.keeps
  have N' : News h₀ L h' ((e, (⟨.ref 44, none, .fields #[.ref t, .none, .none, .none, .bool false, .none], #[]⟩ : Obj)) :: news) := fun p hp => by
    rcases List.mem_cons.mp hp with rfl | hp
    · refine ⟨he, fun (z : e = L) => ?_, ?_⟩
      · obtain ⟨o, es, ep, ho, _⟩ := F.ns
        have := hm.new
        rw [z, ho] at this
        cases this
      · exact kts_none F.keep hm.new
    · exact ⟨hm.keeps _ _ (N p hp).1, (N p hp).2⟩
  have hne : ∀ p ∈ news, p.1 ≠ e := fun p hp z => by
    have := (N p hp).1
    rw [z, hm.new] at this
    cases this
  refine wpAny_call ?_
  have hA : ((A₀.deeper (envOf cn cs L a ccd)).under (.builtin "type.__call__" ⟨[.ref 44, .str (Str.ofString "result is not exact") tk], []⟩)).frames = some (envOf cn cs L a ccd :: outer) := by
    simp only [Around.under, Around.deeper, B.stack]
    rfl
  k_dflt (refine' code_def (s := ⟨h', g, d, tk + 1, os⟩) B F' X N' T hA rfl hk ?k6 ?k7 ?k8 ?k9 ?kB ?_ ?c2 ?c3 ?c4 ?c5; (case k6 => k_is); (case k7 => k_is); (case k8 => (simp only [depth_under_make, depth_deeper]; omega)); (case k9 => exact BindsTo.of_eq rfl); (case c5 => decide); (case kB => exact locs rfl); (case c2 => exact rfl); (case c3 => exact rfl); (case c4 => exact rfl))
  intro g' L' h₁ FG' F₁ N₁ B₁ X₁ T₁
  k_steps
  refine set_exc (by k_asm) (by k_in) (by k_asm) hne set44 over44 take44 (fun dx h₂ k u F₂ N₂ l₁ l₂ => ?_)
  refine wpAny_execs_nil (leaveK_ F₂ N₂ (fun kF kN => ?_))
  refine ⟨rfl, ?_⟩
  refine ⟨e, t, dx, rfl, (X.keeps kF.keep) _ _ h44, (kN _ (.head _)).1, ?_⟩
  exact h _ _ _ _ _ _ _ kF kN fun q hq => ⟨hne q hq, Nat.ne_of_lt (l₁ q hq)⟩
end Mine
end

section
open PySem PySem.W PyProof.Rows PySem.Calls Builtin Builtin.ObjectAttr
set_option Elab.async false
set_option maxRecDepth 100000
set_option maxHeartbeats 8000000
namespace Mine
theorem dummy5 : (fun (_ : OpenLaw) (_ : Params → Frag) => True) PySem.Challenge.rw_pq1399_01 hd.heap_39 := by
  k_fill
  trivial
section
variable {prog : Program} {w : World} {A : Around} {E : Value → Shared → Prop} {h : Heap} {g : Array GenState} {d : Drawn} {t : Nat} {os : OsState} {K : Frag} {x C : Addr} {ox : Obj} {od : Option Obj} {name : Str} {v : Value}
theorem ga_entry {tk : Tok} {Q : Fin → Shared → Prop} (X : K.In h) (I : InstAt h x ox C od) (hf : findObj K C od name = some (.value v)) (hq : Q (.done (.ret v)) ⟨h, g, d, t, os⟩) :
    wpAny (model prog w) A (Builtin.«object.__getattribute__» ⟨[.ref x, .str name tk], []⟩) Q E ⟨h, g, d, t, os⟩ := by
  have L0 := I.type (M := model prog w)
  have L1 := looks_find (M := model prog w) X I hf
  refine wpAny_bind (wpAny_pure (wpAny_bind (wpAny_pure (wpAny_bind (L0.at (wpAny_bind (L1.at ?_)))))))
  exact wpAny_pure hq
theorem ga_call {tk : Tok} {R : Result → Shared → Prop} (X : K.In h) (I : InstAt h x ox C od) (hm : mroIn K C (.type "BaseException") = some true) (hf : findObj K C od name = some (.value v)) (hq : R (.ok (.ret v)) ⟨h, g, d, t, os⟩) :
    codeAny (model prog w) A (.call (.builtin "BaseException.__getattribute__") ⟨[.ref x, .str name tk], []⟩) R ⟨h, g, d, t, os⟩ := by
  have L0 := I.type (M := model prog w)
  have sub : Looks (model prog w) h (isInstance (.ref x) (.type "BaseException")) true := L0.andThen (looks_mroIn X hm)
  exact codeAny_call_builtin PySem.F.attr_Exception.ga.plain PySem.F.entry_bexc_ga (@check_slot (model prog w) _ _ _ "BaseException.__getattribute__" "BaseException" "__getattribute__" (.ref x) [.str name tk] [] _ (by decide +kernel) (by decide +kernel) sub (PySem.F.args_bexc_ga _ _) (ga_entry X I hf hq))
theorem ga_attr {expr : Bool} {Q : Value → Shared → Prop} (X : K.In h) (I : InstAt h x ox C od) (hga : findIn K (.ref C) "__getattribute__" = some (some (.builtin "BaseException.__getattribute__")))
    (hgt : findIn K (.ref C) "__getattr__" = some none) (hm : mroIn K C (.type "BaseException") = some true) (hf : findObj K C od name = some (.value v)) (hh : handedIn v = true) (hq : Q v ⟨h, g, d, t + 1, os⟩) :
    wpAny (model prog w) A (getAttr (.ref x) name expr) Q E ⟨h, g, d, t, os⟩ := by
  have L0 := I.type (M := model prog w)
  have L1 := looks_findIn (M := model prog w) X hga
  have L2 := looks_findIn (M := model prog w) X hgt
  have f3 := PySem.F.attr_Exception.ga.bind (.ref x)
  have hx0 : (expr && onTheHeap (Value.builtin "BaseException.__getattribute__")) = false := by cases expr <;> rfl
  unfold getAttr getAttrBy
  refine wpAny_bind (wpAny_mkText (wpAny_holding (wpAny_bind (L0.at (wpAny_bind (L1.at ?_))))))
  show wpAny _ _ (getAttrByItsOwn _ _ _ _ _ _) _ _ _
  unfold getAttrByItsOwn
  have Lh : Looks (model prog w) h (hookBefore (.ref C)) none := L2
  refine wpAny_bind (Lh.at (wpAny_bind (wpAny_attempt (wpAny_holding ?_))))
  have e1 : callGetattribute (.ref x) (.str name t) (.builtin "BaseException.__getattribute__") expr = boundAndCalled (.builtin "BaseException.__getattribute__") (.ref x) (.str name t) := by
    unfold callGetattribute
    rw [hx0]
    rfl
  show wpAny _ _ (callGetattribute (.ref x) (.str name t) (.builtin "BaseException.__getattribute__") expr) _ _ _
  rw [e1]
  unfold boundAndCalled
  rw [f3]
  refine wpAny_bind (wpAny_pure ?_)
  refine wpAny_call (ga_call X I hm hf ?_)
  show wpAny _ _ (handedOut v) _ _ _
  rw [handedOut_of hh]
  exact wpAny_pure hq
end
theorem get44 {w : World} : findIn (hd.heap_39 w.params) (.ref 44) (Str.ofString "__getattribute__") = some (some (.builtin "BaseException.__getattribute__")) := by k_is
theorem hook44 {w : World} : findIn (hd.heap_39 w.params) (.ref 44) (Str.ofString "__getattr__") = some none := by k_is
theorem msg44 {w : World} : findIn (hd.heap_39 w.params) (.ref 44) (Str.ofString "message") = some none := by k_is
theorem base44 {w : World} : mroIn (hd.heap_39 w.params) 44 (.type "BaseException") = some true := by k_is
theorem dict44 {w : World} : hasDictIn (hd.heap_39 w.params) 44 = true := by k_is

/-- error.message -/
theorem get_message {w : World} {A : Around} {E : Value → Shared → Prop} {s : Shared} {h₀ : Heap} {L : Addr} {m : Str → Option Value} {news : List (Addr × Obj)} {e dx : Addr} {oe : Obj} {vs : Array Value} {sl : Array (Option Value)} {u u' : Tok} {expr : Bool} {Q : Value → Shared → Prop}
    (F : Fr h₀ L s.heap m) (X : (hd.heap_39 w.params).In h₀) (N : News h₀ L s.heap news) (he : (e, oe) ∈ news) (hd : (dx, { excDict w u u' with slots := sl }) ∈ news) (hc : oe.cls = .ref 44) (hdx : oe.dict = some dx) (hv : oe.data = .fields vs)
    (h : Q (.str msgT u') { s with toks := s.toks + 1 }) :
    wpAny (model PySem.Challenge.rw_pq1399_01.row.prog w) A (getAttr (.ref e) (Str.ofString "message") expr) Q E s := by
  obtain ⟨hp, g, d, t, os⟩ := s
  have X' := X.keeps F.keep
  have I : W.InstAt hp e oe 44 (some { excDict w u u' with slots := sl }) := ⟨(N _ he).1, hc, by unfold notCls; rw [hv], by rw [hdx]; exact (N _ hd).1⟩
  exact ga_attr X' I get44 hook44 base44 (findObj_own dict44 msg44 rfl (by with_unfolding_all rfl)) rfl h
end Mine
end

section
open PySem PySem.W PyProof.Rows PySem.Calls
set_option Elab.async false
set_option maxRecDepth 100000
namespace Mine
section
variable {M : Model} {A : Around} {E : Value → Shared → Prop} {s' : Shared} {base g : Heap} {outer : List Env} {L a e dx : Addr} {oe : Obj} {vs : Array Value} {cls : Value} {od : Obj} {m : Str → Option Value} {name : Str} {scope : Scope} {cd : Value} {Q : Unit → Shared → Prop} {news : List (Addr × Obj)}

/-- the raising frame is left, told by its ledger -/
theorem leaveRaiseN (K : Below A base outer g) (F : Fr g L s'.heap m) (N : News g L s'.heap ((e, oe) :: (dx, od) :: news)) (hc : oe.cls = cls) (hd : oe.dict = some dx) (hv : oe.data = .fields vs) (h1 : vs[1]? = some .none)
    (hod : ∀ vs, od.data ≠ .fields vs) (hne : ∀ q ∈ news, q.1 ≠ e ∧ q.1 ≠ dx)
    (hQ : ∀ h', FliesD base g outer e cls dx od news h' → g.UpToSlots h' → Q () { s' with heap := h' }) (hk : scope.kind = .function := by rfl) :
    wpAny M (A.deeper (envOf name scope L a cd)) (leaving (envOf name scope L a cd) (.ref e)) Q E s' := by
  have K' := K.push (name := name) (a := a) (cd := cd) F hk
  have Ne := N _ (.head _)
  have Nd := N _ (.tail _ (.head _))
  have fr : ∀ b, b ∈ (envOf name scope L a cd :: outer).filterMap (·.frame) → base.get? b = none ∧ ∃ o, s'.heap.get? b = some o ∧ ∀ vs, o.data ≠ .fields vs := fun b hb => K'.frames.mem hb
  have hin : ∀ env ∈ (envOf name scope L a cd :: outer), ∀ b, env.frame = some b → b ∈ e :: dx :: (envOf name scope L a cd :: outer).filterMap (·.frame) := fun env he b hb => .tail _ (.tail _ (List.mem_filterMap.mpr ⟨env, he, hb⟩))
  have gone : ∀ b, b ∈ e :: dx :: (envOf name scope L a cd :: outer).filterMap (·.frame) → base.get? b = none := fun b hb => by
    rcases List.mem_cons.mp hb with rfl | hb
    · exact fresh_of_stays K.stays Ne.2.2
    rcases List.mem_cons.mp hb with rfl | hb
    · exact fresh_of_stays K.stays Nd.2.2
    exact (fr b hb).1
  have st : base.StaysIn (hideAll s'.heap (e :: dx :: (envOf name scope L a cd :: outer).filterMap (·.frame))) := fun b o q => hideAll_get _ (K'.stays b o q) fun hm => by
    rw [gone b hm] at q; cases q
  have sg : ∀ b o, g.get? b = some o → b ∉ outer.filterMap (·.frame) → (hideAll s'.heap (e :: dx :: (envOf name scope L a cd :: outer).filterMap (·.frame))).get? b = some o := fun b o q nm => hideAll_get _ (F.keep b o q) fun hm => by
    rcases List.mem_cons.mp hm with rfl | hm
    · rw [Ne.2.2] at q; cases q
    rcases List.mem_cons.mp hm with rfl | hm
    · rw [Nd.2.2] at q; cases q
    rcases kts_mem hm with z | z
    · rw [z, kts_self F] at q
      cases q
    · exact nm z
  have hl : ∀ q ∈ news, (hideAll s'.heap (e :: dx :: (envOf name scope L a cd :: outer).filterMap (·.frame))).get? q.1 = some q.2 ∧ g.get? q.1 = none ∧ base.get? q.1 = none := fun q hq => by
    have Nq := N q (.tail _ (.tail _ hq))
    refine ⟨hideAll_get _ Nq.1 fun hm => ?_, Nq.2.2, fresh_of_stays K.stays Nq.2.2⟩
    rcases List.mem_cons.mp hm with z | hm
    · exact (hne q hq).1 z
    rcases List.mem_cons.mp hm with z | hm
    · exact (hne q hq).2 z
    obtain ⟨env, he, hf⟩ := List.mem_filterMap.mp hm
    rcases List.mem_cons.mp he with rfl | he
    · exact Nq.2.1 (Option.some.inj hf).symm
    · obtain ⟨o, ho, _⟩ := (K.frames.mem (List.mem_filterMap.mpr ⟨env, he, hf⟩)).2
      rw [Nq.2.2] at ho; cases ho
  have ne : (hideAll s'.heap (e :: dx :: (envOf name scope L a cd :: outer).filterMap (·.frame))).get? e = none := hideAll_none _ (.head _)
  have nd : (hideAll s'.heap (e :: dx :: (envOf name scope L a cd :: outer).filterMap (·.frame))).get? dx = none := hideAll_none _ (.tail _ (.head _))
  have hdl : dx ∉ outer.filterMap (·.frame) := fun hm => by
    obtain ⟨_, o, ho, _⟩ := K.frames.mem hm
    rw [Nd.2.2] at ho
    cases ho
  refine leaveFirst K'.stack (funFrames_hide K'.frames hin) rfl Ne.1 (fun b o q => of_hideAll _ q) ne hd hv h1 fun h' x1 x2 => ?_
  rw [hc] at x1
  exact hQ h' ⟨_, st, sg, hl, x1, nd, hdl, upSlots ⟨od.slots, Nd.1⟩ hod x2⟩ ((Heap.UpToSlots.of_keeps F.keep).trans x2)
end
end Mine
end

open PySem PySem.W PyProof.Rows PySem.Calls
set_option Elab.async false
set_option maxRecDepth 100000
set_option maxHeartbeats 8000000
namespace Mine
local macro_rules | `(tactic| walk_at $s:str) => `(tactic| k_extra $s)
section
theorem rg1 : True := by
  k_with_none
  trivial
theorem dummyW0 : (fun (_ : OpenLaw) (_ : Params → Frag) => True) PySem.Challenge.rw_pq1399_01 hd.heap_39 := by
  k_fill
  trivial

abbrev A0 (dp un : Nat) (gd : Option (List Code)) (outer : List Env) : Around := { handled := none, depth := dp, frames := some outer, guards := gd, units := un }

theorem fr_kst {h₀ h : Heap} {L : Addr} {m₁ : Str → Option Value} (ps : List (Str × Value)) (F : Fr h₀ L h m₁) (h1 : ∀ p ∈ ps, m₁ p.1 = some p.2) : Fr h₀ L h (kstB m₁ ps) := by
  have em : kstB m₁ ps = m₁ := by
    funext y
    exact kstB_eq h1 fun _ => rfl
  rw [em]
  exact F
theorem lookup_kst : ∀ (l : List (Str × Value)), (fun y => List.lookup y l) = kstB (fun _ => none) l
  | [] => rfl
  | p :: r => by
    funext y
    have ih := congrFun (lookup_kst r) y
    show List.lookup y (p :: r) = if y = p.1 then some p.2 else kstB (fun _ => none) r y
    rw [← ih]
    by_cases hy : y = p.1
    · rw [if_pos hy]
      have e : (y == p.1) = true := beq_iff_eq.mpr hy
      unfold List.lookup
      rw [e]
    · rw [if_neg hy]
      have e : (y == p.1) = false := by
        cases q : y == p.1 with
        | false => rfl
        | true => exact absurd (beq_iff_eq.mp q) hy
      conv => lhs; unfold List.lookup
      rw [e]

section
variable {prog : Program} {w : World} {A₀ A : Around} {s : Shared} {base h₀ : Heap} {env : Env} {outer : List Env} {L : Addr} {m mg mb : Str → Option Value} {news : List (Addr × Obj)} {K : Frag} {p : Program} {loose : List Str} {mean : ExcName → Option Value}
/-- a def is entered: its frame as written pairs -/
theorem enterK {Q E : Value → Shared → Prop} {name qual : Str} {params : Arguments} {body : List Stmt} {scope : Scope} {dV kV doc pm cdv ct oc : Value} {an od : Option Addr} {osl : Array (Option Value)} {f : Addr} {vals : List Value} (binds : List (Str × Value))
    (B : Below A₀ base outer h₀) (F : Fr h₀ L s.heap m) (X₀ : K.In h₀) (N : News h₀ L s.heap news) (T : Top p loose mean mg mb h₀) (hA : A.frames = some (env :: outer)) (hf : env.frame = some L) (hke : env.scope.kind = .function)
    (ho : K.lookup f = some ⟨oc, od, .func (fnOf name qual params body scope dV kV doc pm an cdv ct), osl⟩) (hcd : codeIn K cdv qual = true) (hroom : A.depth < recursionLimit)
    (hbind : BindsTo s (fnOf name qual params body scope dV kV doc pm an cdv ct) ⟨vals, []⟩ binds) (hloc : ∀ y ∈ binds, scope.names.lookup y.1 = some .local)
    (h : ∀ g L' h₁, Fr h₀ L g m → Fr g L' h₁ (kstB (fun _ => none) binds.reverse) → News g L' h₁ news → Below A base (env :: outer) g → K.In g → Top p loose mean mg mb g →
      wpAny (model prog w) (A.deeper (envOf qual scope L' f cdv)) (execs body (envOf qual scope L' f cdv))
        (fun fl s' => LeaveK h₀ L m g (fun r s' => match r with | .ok (.ret v) => Q v s' | .ok _ => False | .error e => E e s') (match fl with | .ret v => v | _ => .none) s')
        (fun e s' => wpAny (model prog w) (A.deeper (envOf qual scope L' f cdv)) (leaving (envOf qual scope L' f cdv) e) (fun _ s'' => E e s'') (fun e' s'' => E e' s'') s')
        { s with heap := h₁, toks := s.toks + binds.length })
    (hco : scope.isCoroutine = false) (hgen : scope.isGenerator = false) (hk : scope.kind = .function)
    (hcell : ∀ x ∈ scope.names, x.2 ≠ .cell) : wpAny (model prog w) A (call (.ref f) vals) Q E s :=
  wpAny_call (code_def B F X₀ N T hA hf hke ho hcd hroom hbind hloc (fun g L' h₁ a b c d e f => h g L' h₁ a (lookup_kst binds.reverse ▸ b) c d e f) hco hgen hk hcell)
end

section
variable {w : World} {dp un : Nat} {gd : Option (List Code)} {base h₀ : Heap} {outer : List Env} {cn : Str} {cs : Scope} {L a : Addr} {ccd : Value} {s : Shared} {m mg mb : Str → Option Value} {mean : ExcName → Option Value} {news : List (Addr × Obj)} {E : Value → Shared → Prop} {Q : Value → Shared → Prop}

theorem gcd_spec {x y : Int} {tx ty : Tok} (hx : 0 ≤ x) (hy : 0 ≤ y) (B : Below (A0 dp un gd outer) base outer h₀) (F : Fr h₀ L s.heap m) (X : (hd.heap_39 w.params).In h₀) (N : News h₀ L s.heap news) (T : TopP mg mb mean h₀)
    (hroom : dp + 12 < recursionLimit) (hu : un + 60 < cLine) (hk : cs.kind = .function)
    (hret : ∀ t h' tk', Fr h₀ L h' m → News h₀ L h' news → Q (.int (Int.gcd x y) t) { s with heap := h', toks := tk' }) :
    wpAny (model PySem.Challenge.rw_pq1399_01.row.prog w) ((A0 dp un gd outer).deeper (envOf cn cs L a ccd)) (call (.ref 57) [.int x tx, .int y ty]) Q E s := by
  k_dflt (refine' enterK [(Str.ofString "a", .int x tx), (Str.ofString "b", .int y ty)] B F X N T ?kA ?kF ?kK ?k6 ?k7 ?k8 ?k9 ?kB ?_ ?c2 ?c3 ?c4 ?c5; (case kA => exact rfl); (case kF => exact rfl); (case kK => assumption); (case k6 => k_is); (case k7 => k_is); (case k8 => ktr_room); (case k9 => exact BindsTo.of_eq rfl); (case c5 => decide); (case kB => exact locs rfl); (case c2 => exact rfl); (case c3 => exact rfl); (case c4 => exact rfl))
  intro g' L' h' FG' F' N' B' X' T'
  refine wpAny_execs_cons (While_inv2 (fun n m₁ nx => nx = news ∧ ∃ p q tp tq, 0 ≤ p ∧ 0 ≤ q ∧ Int.gcd p q = Int.gcd x y ∧ n = q.toNat ∧ m₁ (Str.ofString "a") = some (.int p tp) ∧ m₁ (Str.ofString "b") = some (.int q tq)) F' N' ⟨rfl, x, y, tx, ty, hx, hy, rfl, rfl, rfl, rfl⟩ ?_)
  rintro n m₁ nx h₁ tk₁ F₁ N₁ ⟨rfl, p, q, tp, tq, hp, hq, hg, rfl, ha, hb⟩
  have F₁ := fr_kst [(Str.ofString "a", .int p tp), (Str.ofString "b", .int q tq)] F₁ (by intro z hz; simp only [List.mem_cons, List.not_mem_nil, or_false] at hz; rcases hz with rfl | rfl <;> assumption)
  k_steps
  · rename Fr _ _ _ _ => F₉
    rename News _ _ _ _ => N₉
    have hlt : 0 < q := by assumption
    refine ⟨_, _, _, nx, (p.fmod q).toNat, rfl, F₉, fun z hz => N₉ z (.tail _ hz), (fmod_less hlt).2, rfl, q, p.fmod q, tq, _, hq, (fmod_less hlt).1, (gcd_step hq).trans hg, rfl, rfl, rfl⟩
  · have hlt : ¬ 0 < q := by assumption
    have e := gcd_end hp hq hlt
    rw [hg] at e
    rw [← e]
    exact hret _ _ _ (by assumption) (by assumption)
end
end
section
theorem rg2 : True := by
  k_with_none
  trivial
/-- the program's bound -/
@[irreducible] def MP : Int := 10 ^ 5000
theorem nsMP {w : World} : nsIn (hd.heap_39 w.params) mainGlobals (Str.ofString "MOST_PART") = some (some (.int MP 251)) := by
  unfold MP
  kernel_rfl

abbrev tupO (p q : Int) (t1 t2 : Tok) : Obj := { cls := .type "tuple", data := .seq #[.int p t1, .int q t2] }

/-- a pair of ints that stands in the ground g or in the ledger -/
structure TupG (g : Heap) (news : List (Addr × Obj)) (D : Addr) (p q : Int) (t1 t2 : Tok) : Prop where
  ex : ∃ o, (o.cls = .type "tuple" ∧ ∃ n, o.data = .seq #[.int p t1, .int q t2] n) ∧ (g.get? D = some o ∨ (D, o) ∈ news)
theorem TupG.up {g g' : Heap} {news news' : List (Addr × Obj)} {D : Addr} {p q : Int} {t1 t2 : Tok} (x : TupG g news D p q t1 t2) (k : ∀ b o, g.get? b = some o → g'.get? b = some o) (hs : ∀ z ∈ news, z ∈ news') : TupG g' news' D p q t1 t2 := by
  obtain ⟨o, h1, h2 | h2⟩ := x.ex
  · exact ⟨⟨o, h1, .inl (k _ _ h2)⟩⟩
  · exact ⟨⟨o, h1, .inr (hs _ h2)⟩⟩
theorem TupG.of {g : Heap} {news : List (Addr × Obj)} {D : Addr} {p q : Int} {t1 t2 : Tok} {n : Nat} (h : (D, ({ cls := .type "tuple", data := .seq #[.int p t1, .int q t2] n } : Obj)) ∈ news) : TupG g news D p q t1 t2 := ⟨⟨_, ⟨rfl, _, rfl⟩, .inr h⟩⟩
theorem TupG.of1 {g : Heap} {news : List (Addr × Obj)} {D : Addr} {p q : Int} {t1 t2 : Tok} {n : Nat} : TupG g ((D, ({ cls := .type "tuple", data := .seq #[.int p t1, .int q t2] n } : Obj)) :: news) D p q t1 t2 := .of (.head _)
theorem TupG.of2 {g : Heap} {news : List (Addr × Obj)} {D : Addr} {p q : Int} {t1 t2 : Tok} {n : Nat} {z : Addr × Obj} : TupG g (z :: (D, ({ cls := .type "tuple", data := .seq #[.int p t1, .int q t2] n } : Obj)) :: news) D p q t1 t2 := .of (.tail _ (.head _))
theorem TupG.isTup {g h : Heap} {L : Addr} {m : Str → Option Value} {news ns : List (Addr × Obj)} {D : Addr} {p q : Int} {t1 t2 : Tok} (x : TupG g news D p q t1 t2) (F : Fr g L h m) (N : News g L h ns) (hs : ∀ z ∈ news, z ∈ ns) : IsTup h D #[.int p t1, .int q t2] := by
  obtain ⟨o, ⟨hc, n, hd⟩, h2 | h2⟩ := x.ex
  · exact ⟨o, F.keep _ _ h2, hc, n, hd⟩
  · exact ⟨o, (N _ (hs _ h2)).1, hc, n, hd⟩
theorem TupG.reads {g h : Heap} {L : Addr} {m : Str → Option Value} {news ns : List (Addr × Obj)} {D : Addr} {p q : Int} {t1 t2 : Tok} (x : TupG g news D p q t1 t2) (F : Fr g L h m) (N : News g L h ns) (hs : ∀ z ∈ news, z ∈ ns) : Reads h (.ref D) (.tuple [.int p, .int q]) [] := by
  obtain ⟨o, ho, hc, n, hd⟩ := x.isTup F N hs
  exact reads_tuple_at ho hc hd (.cons (.int _ _) (.cons (.int _ _) .nil))

section
variable {prog : Program} {w : World} {A : Around} {E : Value → Shared → Prop} {s : Shared} {g : Heap} {L : Addr} {m : Str → Option Value} {news ns : List (Addr × Obj)} {D : Addr} {p q : Int} {t1 t2 : Tok} {value slice : PySem.Expr} {u : Tok} {Q : Value → Shared → Prop}
theorem item0 (x : TupG g news D p q t1 t2) (F : Fr g L s.heap m) (N : News g L s.heap ns) (hs : ∀ z ∈ news, z ∈ ns) (h : Q (.int p t1) s)
    (he : subscripted slice false (.ref D) (.int 0 u) = operate [.ref D, .int 0 u] (getItem (.ref D) (.int 0 u)) := by with_unfolding_all rfl) :
    wpAny (model prog w) A (subscriptTail value slice (.ref D) (.int 0 u)) Q E s :=
  item_tupleT (l := [.int p t1, .int q t2]) (x.isTup F N hs) (by decide) (by decide) (j := 0) rfl rfl h he
theorem item1 (x : TupG g news D p q t1 t2) (F : Fr g L s.heap m) (N : News g L s.heap ns) (hs : ∀ z ∈ news, z ∈ ns) (h : Q (.int q t2) s)
    (he : subscripted slice false (.ref D) (.int 1 u) = operate [.ref D, .int 1 u] (getItem (.ref D) (.int 1 u)) := by with_unfolding_all rfl) :
    wpAny (model prog w) A (subscriptTail value slice (.ref D) (.int 1 u)) Q E s :=
  item_tupleT (l := [.int p t1, .int q t2]) (x.isTup F N hs) (by decide) (by decide) (j := 1) rfl rfl h he
end
theorem sub_refl {news : List (Addr × Obj)} : ∀ z ∈ news, z ∈ news := fun _ h => h
theorem sub_cons {news ns : List (Addr × Obj)} {p : Addr × Obj} (h : ∀ z ∈ news, z ∈ ns) : ∀ z ∈ news, z ∈ p :: ns := fun z hz => .tail _ (h z hz)
theorem sub_app {news ns own : List (Addr × Obj)} (h : ∀ z ∈ news, z ∈ ns) : ∀ z ∈ news, z ∈ own ++ ns := fun z hz => List.mem_append_right _ (h z hz)


theorem rg3 : True := by
  k_with "subscriptTail Name Constant ref int" => (k_here; (rename Fr _ _ _ _ => iF); (rename News _ _ _ _ => iN); (first | refine item0 (by assumption) iF iN (by repeat (first | exact sub_refl | refine sub_cons ?_ | refine sub_app ?_)) ?_ | refine item1 (by assumption) iF iN (by repeat (first | exact sub_refl | refine sub_cons ?_ | refine sub_app ?_)) ?_))
  k_with "eval Name" => (k_here; (with_reducible show wpAny _ _ (eval (Expr.Name (Str.ofString "MOST_PART") _) _) _ _ _); k_dflt (refine' name_K ?k1 ?k2 ?k3 nsMP ?_ ?k4 ?k5 ?k6; (case k1 => k_asm); (case k2 => k_asm); (case k3 => k_asm); (case k4 => rfl); (case k5 => rfl); (case k6 => decide)))
  k_with "exec Raise some none" => (k_here; k_dflt (refine' raise_refusal ?k1 ?k2 ?k3 ?k4 ?k5 ?k6 ?k7 ?k8 ?k9 ?k0 ?_; (case k1 => k_asm); (case k2 => k_asm); (case k3 => k_asm); (case k4 => k_asm); (case k5 => k_asm); (case k6 => rfl); (case k7 => ktr_room); (case k8 => ktr_units); (case k9 => first | rfl | assumption); (case k0 => rfl); k_whole); intro e' dx' t' h' tk' u' u'' F' N' hne')
  k_with "leaving ref" => (k_here; k_dflt (refine' leaveRaiseN ?k1 ?k2 ?k3 ?c1 ?c2 ?c3 ?c4 ?k4 ?k5 ?_ ?k6; (case k1 => k_asm); (case k2 => k_asm); (case k3 => assumption); (case c1 => rfl); (case c2 => rfl); (case c3 => rfl); (case c4 => rfl); (case k4 => (intro _ h9; cases h9)); (case k5 => assumption); (case k6 => rfl); k_whole); intro h' R' U')
  trivial
section
variable {w : World} {dp un : Nat} {gd : Option (List Code)} {base h₀ : Heap} {outer : List Env} {cn : Str} {cs : Scope} {L a : Addr} {ccd : Value} {s : Shared} {m mg mb : Str → Option Value} {mean : ExcName → Option Value} {news : List (Addr × Obj)} {E : Value → Shared → Prop} {Q : Value → Shared → Prop}

/-- a value's way back with one more pair on the ledger -/
abbrev RetT (h₀ : Heap) (L : Addr) (m : Str → Option Value) (news : List (Addr × Obj)) (s : Shared) (Q : Value → Shared → Prop) (p q : Int) : Prop :=
  ∀ D t1 t2 n h' tk', Fr h₀ L h' m → News h₀ L h' ((D, ({ cls := .type "tuple", data := .seq #[.int p t1, .int q t2] n } : Obj)) :: news) → (∀ z ∈ news, z.1 < D) → Q (.ref D) { s with heap := h', toks := tk' }
/-- the refusal's way out -/
abbrev RetX (w : World) (base h₀ : Heap) (outer : List Env) (cn : Str) (cs : Scope) (L a : Addr) (ccd : Value) (m : Str → Option Value) (news : List (Addr × Obj)) (s : Shared) (E : Value → Shared → Prop) : Prop :=
  ∀ e dx u u' G h' tk', Fr h₀ L G m → FliesD base G (envOf cn cs L a ccd :: outer) e (.ref 44) dx (excDict w u u') news h' → G.UpToSlots h' → E (.ref e) { s with heap := h', toks := tk' }

theorem bounded_spec {x y : Int} {tx ty : Tok} (B : Below (A0 dp un gd outer) base outer h₀) (F : Fr h₀ L s.heap m) (X : (hd.heap_39 w.params).In h₀) (N : News h₀ L s.heap news) (T : TopP mg mb mean h₀)
    (hroom : dp + 12 < recursionLimit) (hu : un + 60 < cLine) (hk : cs.kind = .function)
    (hret : (x.natAbs : Int) ≤ MP → y ≤ MP → RetT h₀ L m news s Q x y)
    (hexc : ¬ ((x.natAbs : Int) ≤ MP ∧ y ≤ MP) → RetX w base h₀ outer cn cs L a ccd m news s E) :
    wpAny (model PySem.Challenge.rw_pq1399_01.row.prog w) ((A0 dp un gd outer).deeper (envOf cn cs L a ccd)) (call (.ref 64) [.int x tx, .int y ty]) Q E s := by
  k_dflt (refine' enterK [(Str.ofString "n", .int x tx), (Str.ofString "d", .int y ty)] B F X N T ?kA ?kF ?kK ?k6 ?k7 ?k8 ?k9 ?kB ?_ ?c2 ?c3 ?c4 ?c5; (case kA => exact rfl); (case kF => exact rfl); (case kK => assumption); (case k6 => k_is); (case k7 => k_is); (case k8 => ktr_room); (case k9 => exact BindsTo.of_eq rfl); (case c5 => decide); (case kB => exact locs rfl); (case c2 => exact rfl); (case c3 => exact rfl); (case c4 => exact rfl))
  intro g' L' h' FG' F' N' B' X' T'
  k_steps
  · exact hexc (by omega) _ _ _ _ _ _ _ FG' ‹_› ‹_›
  · exact hexc (by omega) _ _ _ _ _ _ _ FG' ‹_› ‹_›
  · exact hret (by omega) (by omega) _ _ _ _ _ _ ‹_› ‹_› ‹_›
end
end
section
theorem rg4 : True := by
  k_with_none
  trivial
theorem rg5 : True := by
  k_with "eval Call" => (k_here; refine Call_ ?_)
  k_with "subscriptTail Name Constant ref int" => (k_here; (rename Fr _ _ _ _ => iF); (rename News _ _ _ _ => iN); (first | with_reducible refine item0 (by assumption) iF iN (by repeat (first | exact sub_refl | refine sub_cons ?_ | refine sub_app ?_)) ?_ | with_reducible refine item1 (by assumption) iF iN (by repeat (first | exact sub_refl | refine sub_cons ?_ | refine sub_app ?_)) ?_ | with_reducible refine item0 TupG.of1 iF iN sub_refl ?_ | with_reducible refine item1 TupG.of1 iF iN sub_refl ?_ | with_reducible refine item0 TupG.of2 iF iN sub_refl ?_ | with_reducible refine item1 TupG.of2 iF iN sub_refl ?_))
  k_with "eval Name" => (k_here; (with_reducible show wpAny _ _ (eval (Expr.Name (Str.ofString "MOST_PART") _) _) _ _ _); k_dflt (refine' name_K ?k1 ?k2 ?k3 nsMP ?_ ?k4 ?k5 ?k6; (case k1 => k_asm); (case k2 => k_asm); (case k3 => k_asm); (case k4 => rfl); (case k5 => rfl); (case k6 => decide)))
  k_with "exec Raise some none" => (k_here; k_dflt (refine' raise_refusal ?k1 ?k2 ?k3 ?k4 ?k5 ?k6 ?k7 ?k8 ?k9 ?k0 ?_; (case k1 => k_asm); (case k2 => k_asm); (case k3 => k_asm); (case k4 => k_asm); (case k5 => k_asm); (case k6 => rfl); (case k7 => ktr_room); (case k8 => ktr_units); (case k9 => first | rfl | assumption); (case k0 => rfl); k_whole); intro e' dx' t' h' tk' u' u'' F' N' hne')
  k_with "leaving ref" => (k_here; k_dflt (refine' leaveRaiseN ?k1 ?k2 ?k3 ?c1 ?c2 ?c3 ?c4 ?k4 ?k5 ?_ ?k6; (case k1 => k_asm); (case k2 => k_asm); (case k3 => assumption); (case c1 => rfl); (case c2 => rfl); (case c3 => rfl); (case c4 => rfl); (case k4 => (intro _ h9; cases h9)); (case k5 => assumption); (case k6 => rfl); k_whole); intro h' R' U')
  k_with "leaving ref" => (k_here; (rename FliesD _ _ _ _ _ _ _ _ _ => rF); k_dflt (refine' leaveOnD ?k1 ?k2 rF ?k4 ?k5 ?_; (case k1 => k_asm); (case k2 => assumption); (case k4 => (intro _ h9; cases h9)); (case k5 => assumption); k_whole); clear rF; intro h' R' U')
  k_with "call ref" => (k_here; k_dflt (refine' gcd_spec ?p0 ?p1 ?k1 ?k2 ?k3 ?k4 ?k5 ?k6 ?k7 ?k8 ?_; (case k1 => k_asm); (case k2 => k_asm); (case k3 => k_asm); (case k4 => k_asm); (case k5 => k_asm); (case k6 => ktr_room); (case k7 => ktr_units); (case k8 => first | rfl | assumption); (case p0 => omega); (case p1 => omega)); intro t' h' tk' F' N')
  k_with "call ref" => (k_here; k_dflt (refine' bounded_spec  ?k1 ?k2 ?k3 ?k4 ?k5 ?k6 ?k7 ?k8 (fun hb1 hb2 D' t1 t2 n' h' tk' F' N' l' => ?_) (fun hb e' dx' u' u'' G' h' tk' FG9' R' U' => ?_); (case k1 => k_asm); (case k2 => k_asm); (case k3 => k_asm); (case k4 => k_asm); (case k5 => k_asm); (case k6 => ktr_room); (case k7 => ktr_units); (case k8 => first | rfl | assumption)); skip)
  trivial
section
variable {w : World} {dp un : Nat} {gd : Option (List Code)} {base h₀ : Heap} {outer : List Env} {cn : Str} {cs : Scope} {L a : Addr} {ccd : Value} {s : Shared} {m mg mb : Str → Option Value} {mean : ExcName → Option Value} {news : List (Addr × Obj)} {E : Value → Shared → Prop} {Q : Value → Shared → Prop}

/-- what make hands back: lowest terms, within the bound -/
def redc (n d : Int) : Int × Int := (n.fdiv (Int.gcd n d), d.fdiv (Int.gcd n d))
def mk (n d : Int) : Option (Int × Int) := if ((redc n d).1.natAbs : Int) ≤ MP ∧ (redc n d).2 ≤ MP then some (redc n d) else none

theorem gcd_abs (x y : Int) : Int.gcd (if x < 0 then -x else x) y = Int.gcd x y := by
  split
  · exact Int.neg_gcd
  · rfl
theorem gcd_posAbs (x : Int) {y : Int} (hy : 0 < y) : 0 < ((Int.gcd (if x < 0 then -x else x) y : Nat) : Int) := by
  rw [gcd_abs]
  have := Int.gcd_pos_of_ne_zero_right x (Int.ne_of_gt hy)
  omega

theorem gcd_leAbs (x : Int) {y : Int} (hy : 0 < y) : ((Int.gcd (if x < 0 then -x else x) y : Nat) : Int) ≤ y :=
  Int.le_of_dvd hy (Int.gcd_dvd_right _ _)

theorem mk_some {x y : Int} (h1 : ((x.fdiv (Int.gcd (if x < 0 then -x else x) y)).natAbs : Int) ≤ MP) (h2 : y.fdiv (Int.gcd (if x < 0 then -x else x) y) ≤ MP) :
    mk x y = some (x.fdiv (Int.gcd (if x < 0 then -x else x) y), y.fdiv (Int.gcd (if x < 0 then -x else x) y)) := by
  unfold mk redc
  rw [gcd_abs] at h1 h2 ⊢
  rw [if_pos ⟨h1, h2⟩]
theorem mk_none {x y : Int} (h : ¬ (((x.fdiv (Int.gcd (if x < 0 then -x else x) y)).natAbs : Int) ≤ MP ∧ y.fdiv (Int.gcd (if x < 0 then -x else x) y) ≤ MP)) : mk x y = none := by
  unfold mk redc
  rw [gcd_abs] at h
  rw [if_neg h]

theorem make_spec {x y : Int} {tx ty : Tok} (hy : 0 < y) (hy1 : y < 1073741824) (B : Below (A0 dp un gd outer) base outer h₀) (F : Fr h₀ L s.heap m) (X : (hd.heap_39 w.params).In h₀) (N : News h₀ L s.heap news) (T : TopP mg mb mean h₀)
    (hroom : dp + 16 < recursionLimit) (hu : un + 80 < cLine) (hk : cs.kind = .function)
    (hret : ∀ p q, mk x y = some (p, q) → RetT h₀ L m news s Q p q)
    (hexc : mk x y = none → RetX w base h₀ outer cn cs L a ccd m news s E) :
    wpAny (model PySem.Challenge.rw_pq1399_01.row.prog w) ((A0 dp un gd outer).deeper (envOf cn cs L a ccd)) (call (.ref 71) [.int x tx, .int y ty]) Q E s := by
  k_dflt (refine' enterK [(Str.ofString "n", .int x tx), (Str.ofString "d", .int y ty)] B F X N T ?kA ?kF ?kK ?k6 ?k7 ?k8 ?k9 ?kB ?_ ?c2 ?c3 ?c4 ?c5; (case kA => exact rfl); (case kF => exact rfl); (case kK => assumption); (case k6 => k_is); (case k7 => k_is); (case k8 => ktr_room); (case k9 => exact BindsTo.of_eq rfl); (case c5 => decide); (case kB => exact locs rfl); (case c2 => exact rfl); (case c3 => exact rfl); (case c4 => exact rfl))
  intro g' L' h' FG' F' N' B' X' T'
  simp only [List.reverse_cons, List.reverse_nil, List.nil_append, List.cons_append, kstB] at F'
  have hg : 0 < ((Int.gcd (if x < 0 then -x else x) y : Nat) : Int) := gcd_posAbs x hy
  have hgl : ((Int.gcd (if x < 0 then -x else x) y : Nat) : Int) ≤ y := gcd_leAbs x hy
  k_steps
  all_goals first
    | (exfalso; omega)
    | exact hexc (mk_none (by assumption)) _ _ _ _ _ _ _ FG' (by assumption) (by assumption)
    | exact hret _ _ (mk_some (by assumption) (by assumption)) _ _ _ _ _ _ (by assumption) (by assumption) (by assumption)
end
end
section
theorem rg6 : True := by
  k_with_none
  trivial
theorem rg7 : True := by
  k_with "eval Call" => (k_here; refine Call_ ?_)
  k_with "subscriptTail Name Constant ref int" => (k_here; (rename Fr _ _ _ _ => iF); (rename News _ _ _ _ => iN); (first | with_reducible refine item0 (by assumption) iF iN (by repeat (first | exact sub_refl | refine sub_cons ?_ | refine sub_app ?_)) ?_ | with_reducible refine item1 (by assumption) iF iN (by repeat (first | exact sub_refl | refine sub_cons ?_ | refine sub_app ?_)) ?_ | with_reducible refine item0 TupG.of1 iF iN sub_refl ?_ | with_reducible refine item1 TupG.of1 iF iN sub_refl ?_ | with_reducible refine item0 TupG.of2 iF iN sub_refl ?_ | with_reducible refine item1 TupG.of2 iF iN sub_refl ?_))
  k_with "eval Name" => (k_here; (with_reducible show wpAny _ _ (eval (Expr.Name (Str.ofString "MOST_PART") _) _) _ _ _); k_dflt (refine' name_K ?k1 ?k2 ?k3 nsMP ?_ ?k4 ?k5 ?k6; (case k1 => k_asm); (case k2 => k_asm); (case k3 => k_asm); (case k4 => rfl); (case k5 => rfl); (case k6 => decide)))
  k_with "exec Raise some none" => (k_here; k_dflt (refine' raise_refusal ?k1 ?k2 ?k3 ?k4 ?k5 ?k6 ?k7 ?k8 ?k9 ?k0 ?_; (case k1 => k_asm); (case k2 => k_asm); (case k3 => k_asm); (case k4 => k_asm); (case k5 => k_asm); (case k6 => rfl); (case k7 => ktr_room); (case k8 => ktr_units); (case k9 => first | rfl | assumption); (case k0 => rfl); k_whole); intro e' dx' t' h' tk' u' u'' F' N' hne')
  k_with "leaving ref" => (k_here; k_dflt (refine' leaveRaiseN ?k1 ?k2 ?k3 ?c1 ?c2 ?c3 ?c4 ?k4 ?k5 ?_ ?k6; (case k1 => k_asm); (case k2 => k_asm); (case k3 => assumption); (case c1 => rfl); (case c2 => rfl); (case c3 => rfl); (case c4 => rfl); (case k4 => (intro _ h9; cases h9)); (case k5 => assumption); (case k6 => rfl); k_whole); intro h' R' U')
  k_with "leaving ref" => (k_here; (rename FliesD _ _ _ _ _ _ _ _ _ => rF); k_dflt (refine' leaveOnD ?k1 ?k2 rF ?k4 ?k5 ?_; (case k1 => k_asm); (case k2 => assumption); (case k4 => (intro _ h9; cases h9)); (case k5 => assumption); k_whole); clear rF; intro h' R' U')
  trivial
section
variable {w : World} {dp un : Nat} {gd : Option (List Code)} {base h₀ : Heap} {outer : List Env} {cn : Str} {cs : Scope} {L a : Addr} {ccd : Value} {s : Shared} {m mg mb : Str → Option Value} {mean : ExcName → Option Value} {news : List (Addr × Obj)} {E : Value → Shared → Prop} {Q : Value → Shared → Prop}

theorem sub_k1 {p q : Addr × Obj} {l : List (Addr × Obj)} : ∀ z ∈ p :: l, z ∈ p :: q :: l := fun z hz => by
  rcases List.mem_cons.mp hz with h | h
  · exact h ▸ .head _
  · exact .tail _ (.tail _ h)
theorem sub_k2 {p q r : Addr × Obj} {l : List (Addr × Obj)} : ∀ z ∈ p :: l, z ∈ p :: q :: r :: l := fun z hz => by
  rcases List.mem_cons.mp hz with h | h
  · exact h ▸ .head _
  · exact .tail _ (.tail _ (.tail _ h))
theorem sub_k3 {p q r t : Addr × Obj} {l : List (Addr × Obj)} : ∀ z ∈ p :: l, z ∈ p :: q :: r :: t :: l := fun z hz => by
  rcases List.mem_cons.mp hz with h | h
  · exact h ▸ .head _
  · exact .tail _ (.tail _ (.tail _ (.tail _ h)))

theorem from_int_spec {x : Int} {tx : Tok} (B : Below (A0 dp un gd outer) base outer h₀) (F : Fr h₀ L s.heap m) (X : (hd.heap_39 w.params).In h₀) (N : News h₀ L s.heap news) (T : TopP mg mb mean h₀)
    (hroom : dp + 6 < recursionLimit) (hu : un + 30 < cLine) (hk : cs.kind = .function)
    (hret : RetT h₀ L m news s Q x 1) :
    wpAny (model PySem.Challenge.rw_pq1399_01.row.prog w) ((A0 dp un gd outer).deeper (envOf cn cs L a ccd)) (call (.ref 78) [.int x tx]) Q E s := by
  k_dflt (refine' enterK [(Str.ofString "n", .int x tx)] B F X N T ?kA ?kF ?kK ?k6 ?k7 ?k8 ?k9 ?kB ?_ ?c2 ?c3 ?c4 ?c5; (case kA => exact rfl); (case kF => exact rfl); (case kK => assumption); (case k6 => k_is); (case k7 => k_is); (case k8 => ktr_room); (case k9 => exact BindsTo.of_eq rfl); (case c5 => decide); (case kB => exact locs rfl); (case c2 => exact rfl); (case c3 => exact rfl); (case c4 => exact rfl))
  intro g' L' h' FG' F' N' B' X' T'
  simp only [List.reverse_cons, List.reverse_nil, List.nil_append, List.cons_append, kstB] at F'
  k_steps
  exact hret _ _ _ _ _ _ ‹_› ‹_› ‹_›

theorem is_na_spec {D : Addr} {p q : Int} {t1 t2 : Tok} (hx : TupG h₀ news D p q t1 t2) (hq : 0 < q) (B : Below (A0 dp un gd outer) base outer h₀) (F : Fr h₀ L s.heap m) (X : (hd.heap_39 w.params).In h₀) (N : News h₀ L s.heap news) (T : TopP mg mb mean h₀)
    (hroom : dp + 6 < recursionLimit) (hu : un + 30 < cLine) (hk : cs.kind = .function)
    (hret : ∀ h' tk', Fr h₀ L h' m → News h₀ L h' news → Q (.bool false) { s with heap := h', toks := tk' }) :
    wpAny (model PySem.Challenge.rw_pq1399_01.row.prog w) ((A0 dp un gd outer).deeper (envOf cn cs L a ccd)) (call (.ref 85) [.ref D]) Q E s := by
  k_dflt (refine' enterK [(Str.ofString "x", .ref D)] B F X N T ?kA ?kF ?kK ?k6 ?k7 ?k8 ?k9 ?kB ?_ ?c2 ?c3 ?c4 ?c5; (case kA => exact rfl); (case kF => exact rfl); (case kK => assumption); (case k6 => k_is); (case k7 => k_is); (case k8 => ktr_room); (case k9 => exact BindsTo.of_eq rfl); (case c5 => decide); (case kB => exact locs rfl); (case c2 => exact rfl); (case c3 => exact rfl); (case c4 => exact rfl))
  intro g' L' h' FG' F' N' B' X' T'
  simp only [List.reverse_cons, List.reverse_nil, List.nil_append, List.cons_append, kstB] at F'
  have hx' := hx.up FG'.keep sub_refl
  k_steps
  · rw [show (q == 0) = false from beq_eq_false_iff_ne.mpr (by omega)]
    exact hret _ _ ‹_› ‹_›
  · rw [show (p == 0) = false from beq_eq_false_iff_ne.mpr (by omega)]
    exact hret _ _ ‹_› ‹_›

theorem is_finite_spec {D : Addr} {p q : Int} {t1 t2 : Tok} (hx : TupG h₀ news D p q t1 t2) (hq : 0 < q) (B : Below (A0 dp un gd outer) base outer h₀) (F : Fr h₀ L s.heap m) (X : (hd.heap_39 w.params).In h₀) (N : News h₀ L s.heap news) (T : TopP mg mb mean h₀)
    (hroom : dp + 6 < recursionLimit) (hu : un + 30 < cLine) (hk : cs.kind = .function)
    (hret : ∀ h' tk', Fr h₀ L h' m → News h₀ L h' news → Q (.bool true) { s with heap := h', toks := tk' }) :
    wpAny (model PySem.Challenge.rw_pq1399_01.row.prog w) ((A0 dp un gd outer).deeper (envOf cn cs L a ccd)) (call (.ref 92) [.ref D]) Q E s := by
  k_dflt (refine' enterK [(Str.ofString "x", .ref D)] B F X N T ?kA ?kF ?kK ?k6 ?k7 ?k8 ?k9 ?kB ?_ ?c2 ?c3 ?c4 ?c5; (case kA => exact rfl); (case kF => exact rfl); (case kK => assumption); (case k6 => k_is); (case k7 => k_is); (case k8 => ktr_room); (case k9 => exact BindsTo.of_eq rfl); (case c5 => decide); (case kB => exact locs rfl); (case c2 => exact rfl); (case c3 => exact rfl); (case c4 => exact rfl))
  intro g' L' h' FG' F' N' B' X' T'
  simp only [List.reverse_cons, List.reverse_nil, List.nil_append, List.cons_append, kstB] at F'
  have hx' := hx.up FG'.keep sub_refl
  k_steps
  rw [show decide (0 < q) = true from decide_eq_true hq]
  exact hret _ _ ‹_› ‹_›

theorem neg_spec {D : Addr} {p q : Int} {t1 t2 : Tok} (hx : TupG h₀ news D p q t1 t2) (B : Below (A0 dp un gd outer) base outer h₀) (F : Fr h₀ L s.heap m) (X : (hd.heap_39 w.params).In h₀) (N : News h₀ L s.heap news) (T : TopP mg mb mean h₀)
    (hroom : dp + 6 < recursionLimit) (hu : un + 30 < cLine) (hk : cs.kind = .function)
    (hret : RetT h₀ L m news s Q (0 - p) q) :
    wpAny (model PySem.Challenge.rw_pq1399_01.row.prog w) ((A0 dp un gd outer).deeper (envOf cn cs L a ccd)) (call (.ref 106) [.ref D]) Q E s := by
  k_dflt (refine' enterK [(Str.ofString "x", .ref D)] B F X N T ?kA ?kF ?kK ?k6 ?k7 ?k8 ?k9 ?kB ?_ ?c2 ?c3 ?c4 ?c5; (case kA => exact rfl); (case kF => exact rfl); (case kK => assumption); (case k6 => k_is); (case k7 => k_is); (case k8 => ktr_room); (case k9 => exact BindsTo.of_eq rfl); (case c5 => decide); (case kB => exact locs rfl); (case c2 => exact rfl); (case c3 => exact rfl); (case c4 => exact rfl))
  intro g' L' h' FG' F' N' B' X' T'
  simp only [List.reverse_cons, List.reverse_nil, List.nil_append, List.cons_append, kstB] at F'
  have hx' := hx.up FG'.keep sub_refl
  k_steps
  exact hret _ _ _ _ _ _ ‹_› ‹_› ‹_›
end
end
section
theorem rg8 : True := by
  k_with_none
  trivial
theorem rg9 : True := by
  k_with "eval Call" => (k_here; refine Call_ ?_)
  k_with "subscriptTail Name Constant ref int" => (k_here; (rename Fr _ _ _ _ => iF); (rename News _ _ _ _ => iN); (first | with_reducible refine item0 (by assumption) iF iN (by repeat (first | exact sub_refl | refine sub_cons ?_ | refine sub_app ?_)) ?_ | with_reducible refine item1 (by assumption) iF iN (by repeat (first | exact sub_refl | refine sub_cons ?_ | refine sub_app ?_)) ?_ | with_reducible refine item0 TupG.of1 iF iN sub_refl ?_ | with_reducible refine item1 TupG.of1 iF iN sub_refl ?_ | with_reducible refine item0 TupG.of2 iF iN sub_refl ?_ | with_reducible refine item1 TupG.of2 iF iN sub_refl ?_))
  k_with "eval Name" => (k_here; (with_reducible show wpAny _ _ (eval (Expr.Name (Str.ofString "MOST_PART") _) _) _ _ _); k_dflt (refine' name_K ?k1 ?k2 ?k3 nsMP ?_ ?k4 ?k5 ?k6; (case k1 => k_asm); (case k2 => k_asm); (case k3 => k_asm); (case k4 => rfl); (case k5 => rfl); (case k6 => decide)))
  k_with "exec Raise some none" => (k_here; k_dflt (refine' raise_refusal ?k1 ?k2 ?k3 ?k4 ?k5 ?k6 ?k7 ?k8 ?k9 ?k0 ?_; (case k1 => k_asm); (case k2 => k_asm); (case k3 => k_asm); (case k4 => k_asm); (case k5 => k_asm); (case k6 => rfl); (case k7 => ktr_room); (case k8 => ktr_units); (case k9 => first | rfl | assumption); (case k0 => rfl); k_whole); intro e' dx' t' h' tk' u' u'' F' N' hne')
  k_with "leaving ref" => (k_here; k_dflt (refine' leaveRaiseN ?k1 ?k2 ?k3 ?c1 ?c2 ?c3 ?c4 ?k4 ?k5 ?_ ?k6; (case k1 => k_asm); (case k2 => k_asm); (case k3 => assumption); (case c1 => rfl); (case c2 => rfl); (case c3 => rfl); (case c4 => rfl); (case k4 => (intro _ h9; cases h9)); (case k5 => assumption); (case k6 => rfl); k_whole); intro h' R' U')
  k_with "leaving ref" => (k_here; (rename FliesD _ _ _ _ _ _ _ _ _ => rF); k_dflt (refine' leaveOnD ?k1 ?k2 rF ?k4 ?k5 ?_; (case k1 => k_asm); (case k2 => assumption); (case k4 => (intro _ h9; cases h9)); (case k5 => assumption); k_whole); clear rF; intro h' R' U')
  k_with "call ref" => (k_here; k_dflt (refine' make_spec ?p0 ?p1 ?k1 ?k2 ?k3 ?k4 ?k5 ?k6 ?k7 ?k8 (fun p' q' hmk' D' t1' t2' n' h' tk' F' N' l' => ?_) (fun hmk' e' dx' u' u'' G' h' tk' FG9' R' U' => ?_); (case k1 => k_asm); (case k2 => k_asm); (case k3 => k_asm); (case k4 => k_asm); (case k5 => k_asm); (case k6 => ktr_room); (case k7 => ktr_units); (case k8 => first | rfl | assumption); (case p0 => first | assumption | omega | decide); (case p1 => first | assumption | omega | decide)); skip)
  k_with "call ref" => (k_here; k_dflt (refine' is_na_spec ?p0 ?p1 ?k1 ?k2 ?k3 ?k4 ?k5 ?k6 ?k7 ?k8 ?_; (case k1 => k_asm); (case k2 => k_asm); (case k3 => k_asm); (case k4 => k_asm); (case k5 => k_asm); (case k6 => ktr_room); (case k7 => ktr_units); (case k8 => first | rfl | assumption); (case p0 => first | exact TupG.of (by k_mem) | (refine TupG.up (by assumption) (fun _ _ e => e) ?_; repeat (first | exact sub_refl | refine sub_cons ?_ | refine sub_app ?_))); (case p1 => first | assumption | omega)); intro h' tk' F' N')
  k_with "call ref" => (k_here; k_dflt (refine' is_finite_spec ?p0 ?p1 ?k1 ?k2 ?k3 ?k4 ?k5 ?k6 ?k7 ?k8 ?_; (case k1 => k_asm); (case k2 => k_asm); (case k3 => k_asm); (case k4 => k_asm); (case k5 => k_asm); (case k6 => ktr_room); (case k7 => ktr_units); (case k8 => first | rfl | assumption); (case p0 => first | exact TupG.of (by k_mem) | (refine TupG.up (by assumption) (fun _ _ e => e) ?_; repeat (first | exact sub_refl | refine sub_cons ?_ | refine sub_app ?_))); (case p1 => first | assumption | omega)); intro h' tk' F' N')
  k_with "call ref" => (k_here; k_dflt (refine' from_int_spec  ?k1 ?k2 ?k3 ?k4 ?k5 ?k6 ?k7 ?k8 ?_; (case k1 => k_asm); (case k2 => k_asm); (case k3 => k_asm); (case k4 => k_asm); (case k5 => k_asm); (case k6 => ktr_room); (case k7 => ktr_units); (case k8 => first | rfl | assumption)); intro D' t1' t2' n' h' tk' F' N' l')
  k_with "call ref" => (k_here; k_dflt (refine' neg_spec ?p0 ?k1 ?k2 ?k3 ?k4 ?k5 ?k6 ?k7 ?k8 ?_; (case k1 => k_asm); (case k2 => k_asm); (case k3 => k_asm); (case k4 => k_asm); (case k5 => k_asm); (case k6 => ktr_room); (case k7 => ktr_units); (case k8 => first | rfl | assumption); (case p0 => first | exact TupG.of (by k_mem) | (refine TupG.up (by assumption) (fun _ _ e => e) ?_; repeat (first | exact sub_refl | refine sub_cons ?_ | refine sub_app ?_)))); intro D' t1' t2' n' h' tk' F' N' l')
  k_with "binaryOp Mult int int" => (k_here; refine mul_int ?_ (by first | assumption | exact IntMulOk.of_right (PySem.intBits_le_64 (by omega) (by omega)) | exact IntMulOk.of_left (PySem.intBits_le_64 (by omega) (by omega))))
  trivial
section
variable {w : World} {dp un : Nat} {gd : Option (List Code)} {base h₀ : Heap} {outer : List Env} {cn : Str} {cs : Scope} {L a : Addr} {ccd : Value} {s : Shared} {m mg mb : Str → Option Value} {mean : ExcName → Option Value} {news : List (Addr × Obj)} {E : Value → Shared → Prop} {Q : Value → Shared → Prop}

theorem add_spec {D D' : Addr} {p q p' q' : Int} {t1 t2 t1' t2' : Tok} (hx : TupG h₀ news D p q t1 t2) (hy : TupG h₀ news D' p' q' t1' t2') (hq : 0 < q) (hq1 : q < 1073741824) (hq' : 0 < q') (hq1' : q' < 1073741824) (hqq : q * q' < 1073741824) (B : Below (A0 dp un gd outer) base outer h₀) (F : Fr h₀ L s.heap m) (X : (hd.heap_39 w.params).In h₀) (N : News h₀ L s.heap news) (T : TopP mg mb mean h₀)
    (hroom : dp + 24 < recursionLimit) (hu : un + 110 < cLine) (hk : cs.kind = .function)
    (hret : ∀ u v, mk (p * q' + p' * q) (q * q') = some (u, v) → RetT h₀ L m news s Q u v)
    (hexc : mk (p * q' + p' * q) (q * q') = none → RetX w base h₀ outer cn cs L a ccd m news s E) :
    wpAny (model PySem.Challenge.rw_pq1399_01.row.prog w) ((A0 dp un gd outer).deeper (envOf cn cs L a ccd)) (call (.ref 113) [.ref D, .ref D']) Q E s := by
  k_dflt (refine' enterK [(Str.ofString "x", .ref D), (Str.ofString "y", .ref D')] B F X N T ?kA ?kF ?kK ?k6 ?k7 ?k8 ?k9 ?kB ?_ ?c2 ?c3 ?c4 ?c5; (case kA => exact rfl); (case kF => exact rfl); (case kK => assumption); (case k6 => k_is); (case k7 => k_is); (case k8 => ktr_room); (case k9 => exact BindsTo.of_eq rfl); (case c5 => decide); (case kB => exact locs rfl); (case c2 => exact rfl); (case c3 => exact rfl); (case c4 => exact rfl))
  intro g' L' h' FG' F' N' B' X' T'
  simp only [List.reverse_cons, List.reverse_nil, List.nil_append, List.cons_append, kstB] at F'
  have hx' := hx.up FG'.keep sub_refl
  have hy' := hy.up FG'.keep sub_refl
  have hqp : 0 < q * q' := Int.mul_pos hq hq'
  k_steps
  all_goals (first | (exfalso; omega) | exact hexc (by first | assumption | omega) _ _ _ _ _ _ _ FG' (FliesD.less (by assumption) (by first | exact sub_refl | exact sub_k1 | exact sub_k2 | exact sub_k3 | (intro z hz; simp only [List.mem_cons, List.mem_append] at hz ⊢; simp only [hz, true_or, or_true]; done) | (intro z hz; simp only [List.mem_cons, List.mem_append] at hz ⊢; rcases hz with hz | hz <;> simp only [hz, true_or, or_true] <;> done))) (by assumption) | exact hret _ _ (by assumption) _ _ _ _ _ _ (by assumption) (cb_drop (by assumption) (by first | exact sub_refl | exact sub_k1 | exact sub_k2 | exact sub_k3 | (intro z hz; simp only [List.mem_cons, List.mem_append] at hz ⊢; simp only [hz, true_or, or_true]; done) | (intro z hz; simp only [List.mem_cons, List.mem_append] at hz ⊢; rcases hz with hz | hz <;> simp only [hz, true_or, or_true] <;> done))) (by first | assumption | (intro z hz; first | exact l' z (.tail _ hz)) | (intro z hz; have l9 : ∀ y ∈ _, Prod.fst y < _ := (by assumption); exact l9 z (by first | exact .tail _ hz | exact .tail _ (.tail _ hz) | exact .tail _ (.tail _ (.tail _ hz))))))

theorem rg10 : True := by
  k_with "call ref" => (k_here; k_dflt (refine' add_spec ?p0 ?p1 ?p2 ?p3 ?p4 ?p5 ?p6 ?k1 ?k2 ?k3 ?k4 ?k5 ?k6 ?k7 ?k8 (fun p' q' hmk' D' t1' t2' n' h' tk' F' N' l' => ?_) (fun hmk' e' dx' u' u'' G' h' tk' FG9' R' U' => ?_); (case k1 => k_asm); (case k2 => k_asm); (case k3 => k_asm); (case k4 => k_asm); (case k5 => k_asm); (case k6 => ktr_room); (case k7 => ktr_units); (case k8 => first | rfl | assumption); (case p0 => first | exact TupG.of (by k_mem) | (refine TupG.up (by assumption) (fun _ _ e => e) ?_; repeat (first | exact sub_refl | refine sub_cons ?_ | refine sub_app ?_))); (case p1 => first | exact TupG.of (by k_mem) | (refine TupG.up (by assumption) (fun _ _ e => e) ?_; repeat (first | exact sub_refl | refine sub_cons ?_ | refine sub_app ?_))); (case p2 => first | assumption | omega); (case p3 => first | assumption | omega); (case p4 => first | assumption | omega); (case p5 => first | assumption | omega); (case p6 => first | assumption | omega)); skip)
  trivial
theorem sub_spec {D D' : Addr} {p q p' q' : Int} {t1 t2 t1' t2' : Tok} (hx : TupG h₀ news D p q t1 t2) (hy : TupG h₀ news D' p' q' t1' t2') (hq : 0 < q) (hq1 : q < 1073741824) (hq' : 0 < q') (hq1' : q' < 1073741824) (hqq : q * q' < 1073741824) (B : Below (A0 dp un gd outer) base outer h₀) (F : Fr h₀ L s.heap m) (X : (hd.heap_39 w.params).In h₀) (N : News h₀ L s.heap news) (T : TopP mg mb mean h₀)
    (hroom : dp + 32 < recursionLimit) (hu : un + 140 < cLine) (hk : cs.kind = .function)
    (hret : ∀ u v, mk (p * q' + (0 - p') * q) (q * q') = some (u, v) → RetT h₀ L m news s Q u v)
    (hexc : mk (p * q' + (0 - p') * q) (q * q') = none → RetX w base h₀ outer cn cs L a ccd m news s E) :
    wpAny (model PySem.Challenge.rw_pq1399_01.row.prog w) ((A0 dp un gd outer).deeper (envOf cn cs L a ccd)) (call (.ref 120) [.ref D, .ref D']) Q E s := by
  k_dflt (refine' enterK [(Str.ofString "x", .ref D), (Str.ofString "y", .ref D')] B F X N T ?kA ?kF ?kK ?k6 ?k7 ?k8 ?k9 ?kB ?_ ?c2 ?c3 ?c4 ?c5; (case kA => exact rfl); (case kF => exact rfl); (case kK => assumption); (case k6 => k_is); (case k7 => k_is); (case k8 => ktr_room); (case k9 => exact BindsTo.of_eq rfl); (case c5 => decide); (case kB => exact locs rfl); (case c2 => exact rfl); (case c3 => exact rfl); (case c4 => exact rfl))
  intro g' L' h' FG' F' N' B' X' T'
  simp only [List.reverse_cons, List.reverse_nil, List.nil_append, List.cons_append, kstB] at F'
  have hx' := hx.up FG'.keep sub_refl
  have hy' := hy.up FG'.keep sub_refl
  k_steps
  all_goals (first | (exfalso; omega) | exact hexc (by first | assumption | omega) _ _ _ _ _ _ _ FG' (FliesD.less (by assumption) (by first | exact sub_refl | exact sub_k1 | exact sub_k2 | exact sub_k3 | (intro z hz; simp only [List.mem_cons, List.mem_append] at hz ⊢; simp only [hz, true_or, or_true]; done) | (intro z hz; simp only [List.mem_cons, List.mem_append] at hz ⊢; rcases hz with hz | hz <;> simp only [hz, true_or, or_true] <;> done))) (by assumption) | exact hret _ _ (by assumption) _ _ _ _ _ _ (by assumption) (cb_drop (by assumption) (by first | exact sub_refl | exact sub_k1 | exact sub_k2 | exact sub_k3 | (intro z hz; simp only [List.mem_cons, List.mem_append] at hz ⊢; simp only [hz, true_or, or_true]; done) | (intro z hz; simp only [List.mem_cons, List.mem_append] at hz ⊢; rcases hz with hz | hz <;> simp only [hz, true_or, or_true] <;> done))) (by first | assumption | (intro z hz; first | exact l' z (.tail _ hz)) | (intro z hz; have l9 : ∀ y ∈ _, Prod.fst y < _ := (by assumption); exact l9 z (by first | exact .tail _ hz | exact .tail _ (.tail _ hz) | exact .tail _ (.tail _ (.tail _ hz))))))

theorem mul_spec {D D' : Addr} {p q p' q' : Int} {t1 t2 t1' t2' : Tok} (hx : TupG h₀ news D p q t1 t2) (hy : TupG h₀ news D' p' q' t1' t2') (hq : 0 < q) (hq1 : q < 1073741824) (hq' : 0 < q') (hq1' : q' < 1073741824) (hqq : q * q' < 1073741824) (hpp : IntMulOk p p') (B : Below (A0 dp un gd outer) base outer h₀) (F : Fr h₀ L s.heap m) (X : (hd.heap_39 w.params).In h₀) (N : News h₀ L s.heap news) (T : TopP mg mb mean h₀)
    (hroom : dp + 24 < recursionLimit) (hu : un + 110 < cLine) (hk : cs.kind = .function)
    (hret : ∀ u v, mk (p * p') (q * q') = some (u, v) → RetT h₀ L m news s Q u v)
    (hexc : mk (p * p') (q * q') = none → RetX w base h₀ outer cn cs L a ccd m news s E) :
    wpAny (model PySem.Challenge.rw_pq1399_01.row.prog w) ((A0 dp un gd outer).deeper (envOf cn cs L a ccd)) (call (.ref 127) [.ref D, .ref D']) Q E s := by
  k_dflt (refine' enterK [(Str.ofString "x", .ref D), (Str.ofString "y", .ref D')] B F X N T ?kA ?kF ?kK ?k6 ?k7 ?k8 ?k9 ?kB ?_ ?c2 ?c3 ?c4 ?c5; (case kA => exact rfl); (case kF => exact rfl); (case kK => assumption); (case k6 => k_is); (case k7 => k_is); (case k8 => ktr_room); (case k9 => exact BindsTo.of_eq rfl); (case c5 => decide); (case kB => exact locs rfl); (case c2 => exact rfl); (case c3 => exact rfl); (case c4 => exact rfl))
  intro g' L' h' FG' F' N' B' X' T'
  simp only [List.reverse_cons, List.reverse_nil, List.nil_append, List.cons_append, kstB] at F'
  have hx' := hx.up FG'.keep sub_refl
  have hy' := hy.up FG'.keep sub_refl
  have hqp : 0 < q * q' := Int.mul_pos hq hq'
  k_steps
  all_goals (first | (exfalso; omega) | exact hexc (by first | assumption | omega) _ _ _ _ _ _ _ FG' (FliesD.less (by assumption) (by first | exact sub_refl | exact sub_k1 | exact sub_k2 | exact sub_k3 | (intro z hz; simp only [List.mem_cons, List.mem_append] at hz ⊢; simp only [hz, true_or, or_true]; done) | (intro z hz; simp only [List.mem_cons, List.mem_append] at hz ⊢; rcases hz with hz | hz <;> simp only [hz, true_or, or_true] <;> done))) (by assumption) | exact hret _ _ (by assumption) _ _ _ _ _ _ (by assumption) (cb_drop (by assumption) (by first | exact sub_refl | exact sub_k1 | exact sub_k2 | exact sub_k3 | (intro z hz; simp only [List.mem_cons, List.mem_append] at hz ⊢; simp only [hz, true_or, or_true]; done) | (intro z hz; simp only [List.mem_cons, List.mem_append] at hz ⊢; rcases hz with hz | hz <;> simp only [hz, true_or, or_true] <;> done))) (by first | assumption | (intro z hz; first | exact l' z (.tail _ hz)) | (intro z hz; have l9 : ∀ y ∈ _, Prod.fst y < _ := (by assumption); exact l9 z (by first | exact .tail _ hz | exact .tail _ (.tail _ hz) | exact .tail _ (.tail _ (.tail _ hz))))))

theorem div_spec {D D' : Addr} {p q p' q' : Int} {t1 t2 t1' t2' : Tok} (hx : TupG h₀ news D p q t1 t2) (hy : TupG h₀ news D' p' q' t1' t2') (hq : 0 < q) (hq1 : q < 1073741824) (hq' : 0 < q') (hq1' : q' < 1073741824) (hp' : 0 < p') (hqp1 : q * p' < 1073741824) (hp1' : p' < 1073741824) (B : Below (A0 dp un gd outer) base outer h₀) (F : Fr h₀ L s.heap m) (X : (hd.heap_39 w.params).In h₀) (N : News h₀ L s.heap news) (T : TopP mg mb mean h₀)
    (hroom : dp + 24 < recursionLimit) (hu : un + 110 < cLine) (hk : cs.kind = .function)
    (hret : ∀ u v, mk (p * q') (q * p') = some (u, v) → RetT h₀ L m news s Q u v)
    (hexc : mk (p * q') (q * p') = none → RetX w base h₀ outer cn cs L a ccd m news s E) :
    wpAny (model PySem.Challenge.rw_pq1399_01.row.prog w) ((A0 dp un gd outer).deeper (envOf cn cs L a ccd)) (call (.ref 134) [.ref D, .ref D']) Q E s := by
  k_dflt (refine' enterK [(Str.ofString "x", .ref D), (Str.ofString "y", .ref D')] B F X N T ?kA ?kF ?kK ?k6 ?k7 ?k8 ?k9 ?kB ?_ ?c2 ?c3 ?c4 ?c5; (case kA => exact rfl); (case kF => exact rfl); (case kK => assumption); (case k6 => k_is); (case k7 => k_is); (case k8 => ktr_room); (case k9 => exact BindsTo.of_eq rfl); (case c5 => decide); (case kB => exact locs rfl); (case c2 => exact rfl); (case c3 => exact rfl); (case c4 => exact rfl))
  intro g' L' h' FG' F' N' B' X' T'
  simp only [List.reverse_cons, List.reverse_nil, List.nil_append, List.cons_append, kstB] at F'
  have hx' := hx.up FG'.keep sub_refl
  have hy' := hy.up FG'.keep sub_refl
  have hqp : 0 < q * p' := Int.mul_pos hq hp'
  k_steps
  all_goals (first | (exfalso; omega) | exact hexc (by first | assumption | omega) _ _ _ _ _ _ _ FG' (FliesD.less (by assumption) (by first | exact sub_refl | exact sub_k1 | exact sub_k2 | exact sub_k3 | (intro z hz; simp only [List.mem_cons, List.mem_append] at hz ⊢; simp only [hz, true_or, or_true]; done) | (intro z hz; simp only [List.mem_cons, List.mem_append] at hz ⊢; rcases hz with hz | hz <;> simp only [hz, true_or, or_true] <;> done))) (by assumption) | exact hret _ _ (by assumption) _ _ _ _ _ _ (by assumption) (cb_drop (by assumption) (by first | exact sub_refl | exact sub_k1 | exact sub_k2 | exact sub_k3 | (intro z hz; simp only [List.mem_cons, List.mem_append] at hz ⊢; simp only [hz, true_or, or_true]; done) | (intro z hz; simp only [List.mem_cons, List.mem_append] at hz ⊢; rcases hz with hz | hz <;> simp only [hz, true_or, or_true] <;> done))) (by first | assumption | (intro z hz; first | exact l' z (.tail _ hz)) | (intro z hz; have l9 : ∀ y ∈ _, Prod.fst y < _ := (by assumption); exact l9 z (by first | exact .tail _ hz | exact .tail _ (.tail _ hz) | exact .tail _ (.tail _ (.tail _ hz))))))

end
end
section
theorem rg11 : True := by
  k_with_none
  trivial
theorem rg12 : True := by
  k_with "eval Call" => (k_here; refine Call_ ?_)
  k_with "subscriptTail Name Constant ref int" => (k_here; (rename Fr _ _ _ _ => iF); (rename News _ _ _ _ => iN); (first | with_reducible refine item0 (by assumption) iF iN (by repeat (first | exact sub_refl | refine sub_cons ?_ | refine sub_app ?_)) ?_ | with_reducible refine item1 (by assumption) iF iN (by repeat (first | exact sub_refl | refine sub_cons ?_ | refine sub_app ?_)) ?_ | with_reducible refine item0 TupG.of1 iF iN sub_refl ?_ | with_reducible refine item1 TupG.of1 iF iN sub_refl ?_ | with_reducible refine item0 TupG.of2 iF iN sub_refl ?_ | with_reducible refine item1 TupG.of2 iF iN sub_refl ?_))
  k_with "eval Name" => (k_here; (with_reducible show wpAny _ _ (eval (Expr.Name (Str.ofString "MOST_PART") _) _) _ _ _); k_dflt (refine' name_K ?k1 ?k2 ?k3 nsMP ?_ ?k4 ?k5 ?k6; (case k1 => k_asm); (case k2 => k_asm); (case k3 => k_asm); (case k4 => rfl); (case k5 => rfl); (case k6 => decide)))
  k_with "exec Raise some none" => (k_here; k_dflt (refine' raise_refusal ?k1 ?k2 ?k3 ?k4 ?k5 ?k6 ?k7 ?k8 ?k9 ?k0 ?_; (case k1 => k_asm); (case k2 => k_asm); (case k3 => k_asm); (case k4 => k_asm); (case k5 => k_asm); (case k6 => rfl); (case k7 => ktr_room); (case k8 => ktr_units); (case k9 => first | rfl | assumption); (case k0 => rfl); k_whole); intro e' dx' t' h' tk' u' u'' F' N' hne')
  k_with "leaving ref" => (k_here; k_dflt (refine' leaveRaiseN ?k1 ?k2 ?k3 ?c1 ?c2 ?c3 ?c4 ?k4 ?k5 ?_ ?k6; (case k1 => k_asm); (case k2 => k_asm); (case k3 => assumption); (case c1 => rfl); (case c2 => rfl); (case c3 => rfl); (case c4 => rfl); (case k4 => (intro _ h9; cases h9)); (case k5 => assumption); (case k6 => rfl); k_whole); intro h' R' U')
  k_with "leaving ref" => (k_here; (rename FliesD _ _ _ _ _ _ _ _ _ => rF); k_dflt (refine' leaveOnD ?k1 ?k2 rF ?k4 ?k5 ?_; (case k1 => k_asm); (case k2 => assumption); (case k4 => (intro _ h9; cases h9)); (case k5 => assumption); k_whole); clear rF; intro h' R' U')
  k_with "call ref" => (k_here; k_dflt (refine' make_spec ?p0 ?p1 ?k1 ?k2 ?k3 ?k4 ?k5 ?k6 ?k7 ?k8 (fun p' q' hmk' D' t1' t2' n' h' tk' F' N' l' => ?_) (fun hmk' e' dx' u' u'' G' h' tk' FG9' R' U' => ?_); (case k1 => k_asm); (case k2 => k_asm); (case k3 => k_asm); (case k4 => k_asm); (case k5 => k_asm); (case k6 => ktr_room); (case k7 => ktr_units); (case k8 => first | rfl | assumption); (case p0 => first | assumption | omega | decide); (case p1 => first | assumption | omega | decide)); skip)
  k_with "call ref" => (k_here; k_dflt (refine' is_finite_spec ?p0 ?p1 ?k1 ?k2 ?k3 ?k4 ?k5 ?k6 ?k7 ?k8 ?_; (case k1 => k_asm); (case k2 => k_asm); (case k3 => k_asm); (case k4 => k_asm); (case k5 => k_asm); (case k6 => ktr_room); (case k7 => ktr_units); (case k8 => first | rfl | assumption); (case p0 => first | exact TupG.of (by k_mem) | (refine TupG.up (by assumption) (fun _ _ e => e) ?_; repeat (first | exact sub_refl | refine sub_cons ?_ | refine sub_app ?_))); (case p1 => first | assumption | omega)); intro h' tk' F' N')
  k_with "call ref" => (k_here; k_dflt (refine' nearest_spec  ?k1 ?k2 ?k3 ?k4 ?k5 ?k6 ?k7 ?k8 ?_; (case k1 => k_asm); (case k2 => k_asm); (case k3 => k_asm); (case k4 => k_asm); (case k5 => k_asm); (case k6 => ktr_room); (case k7 => ktr_units); (case k8 => first | rfl | assumption)); intro t' h' tk' F' N')
  k_with "binaryOp Mult int int" => (k_here; refine mul_int ?_ (by first | assumption | exact IntMulOk.of_right (PySem.intBits_le_64 (by omega) (by omega)) | exact IntMulOk.of_left (PySem.intBits_le_64 (by omega) (by omega)) | exact IntMulOk.of_right (by decide)))
  trivial
section
variable {w : World} {dp un : Nat} {gd : Option (List Code)} {base h₀ : Heap} {outer : List Env} {cn : Str} {cs : Scope} {L a : Addr} {ccd : Value} {s : Shared} {m mg mb : Str → Option Value} {mean : ExcName → Option Value} {news : List (Addr × Obj)} {E : Value → Shared → Prop} {Q : Value → Shared → Prop}

theorem fdiv_one' (n : Int) : n.fdiv 1 = n := by simp
theorem mp_pos : 1 ≤ MP := by
  unfold MP
  exact Int.le_of_lt_add_one (by decide +kernel)
theorem mk_one {k : Int} (h : (k.natAbs : Int) ≤ MP) : mk k 1 = some (k, 1) := by
  have e : redc k 1 = (k, 1) := by simp [redc]
  have := mp_pos
  unfold mk
  rw [e, if_pos ⟨h, this⟩]

theorem nearest_spec {n : Int} {tx ty : Tok} (B : Below (A0 dp un gd outer) base outer h₀) (F : Fr h₀ L s.heap m) (X : (hd.heap_39 w.params).In h₀) (N : News h₀ L s.heap news) (T : TopP mg mb mean h₀)
    (hroom : dp + 6 < recursionLimit) (hu : un + 30 < cLine) (hk : cs.kind = .function)
    (hret : ∀ t h' tk', Fr h₀ L h' m → News h₀ L h' news → Q (.int n t) { s with heap := h', toks := tk' }) :
    wpAny (model PySem.Challenge.rw_pq1399_01.row.prog w) ((A0 dp un gd outer).deeper (envOf cn cs L a ccd)) (call (.ref 148) [.int n tx, .int 1 ty]) Q E s := by
  k_dflt (refine' enterK [(Str.ofString "n", .int n tx), (Str.ofString "d", .int 1 ty)] B F X N T ?kA ?kF ?kK ?k6 ?k7 ?k8 ?k9 ?kB ?_ ?c2 ?c3 ?c4 ?c5; (case kA => exact rfl); (case kF => exact rfl); (case kK => assumption); (case k6 => k_is); (case k7 => k_is); (case k8 => ktr_room); (case k9 => exact BindsTo.of_eq rfl); (case c5 => decide); (case kB => exact locs rfl); (case c2 => exact rfl); (case c3 => exact rfl); (case c4 => exact rfl))
  intro g' L' h' FG' F' N' B' X' T'
  simp only [List.reverse_cons, List.reverse_nil, List.nil_append, List.cons_append, kstB] at F'
  have h1 := fdiv_one' n
  k_steps
  · exfalso
    omega
  · rw [h1]
    exact hret _ _ _ ‹_› ‹_›

theorem to_whole_spec {D : Addr} {k : Int} {t1 t2 : Tok} (hx : TupG h₀ news D k 1 t1 t2) (B : Below (A0 dp un gd outer) base outer h₀) (F : Fr h₀ L s.heap m) (X : (hd.heap_39 w.params).In h₀) (N : News h₀ L s.heap news) (T : TopP mg mb mean h₀)
    (hroom : dp + 12 < recursionLimit) (hu : un + 60 < cLine) (hk : cs.kind = .function)
    (hret : ∀ t h' tk', Fr h₀ L h' m → News h₀ L h' news → Q (.int k t) { s with heap := h', toks := tk' }) :
    wpAny (model PySem.Challenge.rw_pq1399_01.row.prog w) ((A0 dp un gd outer).deeper (envOf cn cs L a ccd)) (call (.ref 141) [.ref D]) Q E s := by
  k_dflt (refine' enterK [(Str.ofString "x", .ref D)] B F X N T ?kA ?kF ?kK ?k6 ?k7 ?k8 ?k9 ?kB ?_ ?c2 ?c3 ?c4 ?c5; (case kA => exact rfl); (case kF => exact rfl); (case kK => assumption); (case k6 => k_is); (case k7 => k_is); (case k8 => ktr_room); (case k9 => exact BindsTo.of_eq rfl); (case c5 => decide); (case kB => exact locs rfl); (case c2 => exact rfl); (case c3 => exact rfl); (case c4 => exact rfl))
  intro g' L' h' FG' F' N' B' X' T'
  simp only [List.reverse_cons, List.reverse_nil, List.nil_append, List.cons_append, kstB] at F'
  have hx' := hx.up FG'.keep sub_refl
  k_steps
  · rw [fdiv_one', if_neg (by omega)]
    exact hret _ _ _ ‹_› ‹_›
  · rw [fdiv_one', if_pos (by omega), show (0 : Int) - -k = k from by omega]
    exact hret _ _ _ ‹_› ‹_›

theorem rg13 : True := by
  k_with "call ref" => (k_here; k_dflt (refine' nearest_spec  ?k1 ?k2 ?k3 ?k4 ?k5 ?k6 ?k7 ?k8 ?_; (case k1 => k_asm); (case k2 => k_asm); (case k3 => k_asm); (case k4 => k_asm); (case k5 => k_asm); (case k6 => ktr_room); (case k7 => ktr_units); (case k8 => first | rfl | assumption)); intro t' h' tk' F' N')
  trivial
theorem rounded_spec {D : Addr} {k : Int} {t1 t2 t3 : Tok} (hx : TupG h₀ news D k 1 t1 t2) (hM : (k.natAbs : Int) ≤ MP) (B : Below (A0 dp un gd outer) base outer h₀) (F : Fr h₀ L s.heap m) (X : (hd.heap_39 w.params).In h₀) (N : News h₀ L s.heap news) (T : TopP mg mb mean h₀)
    (hroom : dp + 24 < recursionLimit) (hu : un + 120 < cLine) (hk : cs.kind = .function)
    (hret : RetT h₀ L m news s Q k 1) :
    wpAny (model PySem.Challenge.rw_pq1399_01.row.prog w) ((A0 dp un gd outer).deeper (envOf cn cs L a ccd)) (call (.ref 155) [.ref D, .int 0 t3]) Q E s := by
  k_dflt (refine' enterK [(Str.ofString "x", .ref D), (Str.ofString "places", .int 0 t3)] B F X N T ?kA ?kF ?kK ?k6 ?k7 ?k8 ?k9 ?kB ?_ ?c2 ?c3 ?c4 ?c5; (case kA => exact rfl); (case kF => exact rfl); (case kK => assumption); (case k6 => k_is); (case k7 => k_is); (case k8 => ktr_room); (case k9 => exact BindsTo.of_eq rfl); (case c5 => decide); (case kB => exact locs rfl); (case c2 => exact rfl); (case c3 => exact rfl); (case c4 => exact rfl))
  intro g' L' h' FG' F' N' B' X' T'
  simp only [List.reverse_cons, List.reverse_nil, List.nil_append, List.cons_append, kstB] at F'
  have hx' := hx.up FG'.keep sub_refl
  have he : mk (k * 10 ^ Int.toNat 0) (10 ^ Int.toNat 0) = some (k, 1) := by
    have e1 : (10 : Int) ^ Int.toNat 0 = 1 := by decide
    rw [e1, Int.mul_one]
    exact mk_one hM
  k_steps
  · rename mk _ _ = some _ => hm9
    rw [he] at hm9
    cases hm9
    exact hret _ _ _ _ _ _ ‹_› ‹_› ‹_›
  · rename mk _ _ = none => hm9
    rw [he] at hm9
    cases hm9

theorem rg14 : True := by
  k_with "call ref" => (k_here; k_dflt (refine' rounded_spec ?p0 ?p1 ?k1 ?k2 ?k3 ?k4 ?k5 ?k6 ?k7 ?k8 ?_; (case k1 => k_asm); (case k2 => k_asm); (case k3 => k_asm); (case k4 => k_asm); (case k5 => k_asm); (case k6 => ktr_room); (case k7 => ktr_units); (case k8 => first | rfl | assumption); (case p0 => first | exact TupG.of (by k_mem) | (refine TupG.up (by assumption) (fun _ _ e => e) ?_; repeat (first | exact sub_refl | refine sub_cons ?_ | refine sub_app ?_))); (case p1 => assumption)); intro D' t1' t2' n' h' tk' F' N' l')
  trivial
theorem round_half_even_spec {D : Addr} {k : Int} {t1 t2 t3 : Tok} (hx : TupG h₀ news D k 1 t1 t2) (hM : (k.natAbs : Int) ≤ MP) (B : Below (A0 dp un gd outer) base outer h₀) (F : Fr h₀ L s.heap m) (X : (hd.heap_39 w.params).In h₀) (N : News h₀ L s.heap news) (T : TopP mg mb mean h₀)
    (hroom : dp + 32 < recursionLimit) (hu : un + 160 < cLine) (hk : cs.kind = .function)
    (hret : RetT h₀ L m news s Q k 1) :
    wpAny (model PySem.Challenge.rw_pq1399_01.row.prog w) ((A0 dp un gd outer).deeper (envOf cn cs L a ccd)) (call (.ref 162) [.ref D, .int 0 t3]) Q E s := by
  k_dflt (refine' enterK [(Str.ofString "x", .ref D), (Str.ofString "places", .int 0 t3)] B F X N T ?kA ?kF ?kK ?k6 ?k7 ?k8 ?k9 ?kB ?_ ?c2 ?c3 ?c4 ?c5; (case kA => exact rfl); (case kF => exact rfl); (case kK => assumption); (case k6 => k_is); (case k7 => k_is); (case k8 => ktr_room); (case k9 => exact BindsTo.of_eq rfl); (case c5 => decide); (case kB => exact locs rfl); (case c2 => exact rfl); (case c3 => exact rfl); (case c4 => exact rfl))
  intro g' L' h' FG' F' N' B' X' T'
  simp only [List.reverse_cons, List.reverse_nil, List.nil_append, List.cons_append, kstB] at F'
  have hx' := hx.up FG'.keep sub_refl
  k_steps
  exact hret _ _ _ _ _ _ ‹_› ‹_› ‹_›
end
end
section
theorem rg15 : True := by
  k_with_none
  trivial
theorem fdiv_pos {d g : Int} (hd : 0 < d) (hg : 0 < g) (h : g ∣ d) : 0 < d.fdiv g ∧ d.fdiv g ≤ d := by
  rw [Int.fdiv_eq_ediv_of_nonneg _ (Int.le_of_lt hg)]
  obtain ⟨c, rfl⟩ := h
  rw [Int.mul_ediv_cancel_left _ (Int.ne_of_gt hg)]
  have hc : 0 < c := Int.pos_of_mul_pos_right hd hg
  refine ⟨hc, ?_⟩
  have : 1 * c ≤ g * c := Int.mul_le_mul_of_nonneg_right (by omega) (Int.le_of_lt hc)
  omega
theorem mk_facts {n d p q : Int} (h : mk n d = some (p, q)) (hd : 0 < d) : (p.natAbs : Int) ≤ MP ∧ 0 < q ∧ q ≤ d := by
  unfold mk at h
  split at h
  · rename_i hb
    have e := Option.some.inj h
    have e1 : p = (redc n d).1 := by rw [e]
    have e2 : q = (redc n d).2 := by rw [e]
    have g0 : 0 < ((Int.gcd n d : Nat) : Int) := by
      have := Int.gcd_pos_of_ne_zero_right n (Int.ne_of_gt hd)
      omega
    have := fdiv_pos hd g0 (Int.gcd_dvd_right n d)
    refine ⟨e1 ▸ hb.1, ?_, ?_⟩
    · rw [e2]; exact this.1
    · rw [e2]; exact this.2
  · cases h

theorem mp_bits : MP < 2 ^ 20000 := by
  unfold MP
  decide +kernel
theorem bits_mp {p : Int} (h : (p.natAbs : Int) ≤ MP) : Builtin.Int.intBits p ≤ 20000 := by
  refine intBits_le_iff.mpr ?_
  have h1 := mp_bits
  have h2 : (p.natAbs : Int) < ((2 ^ 20000 : Nat) : Int) := Int.lt_of_le_of_lt h (by rw [Int.natCast_pow]; exact h1)
  exact Int.ofNat_lt.mp h2
theorem mulOk_mp {p q : Int} (hp : (p.natAbs : Int) ≤ MP) (hq : (q.natAbs : Int) ≤ MP) : IntMulOk p q :=
  IntMulOk.of_bits (Nat.le_trans (bits_mp hp) (by decide)) (Nat.le_trans (bits_mp hq) (by decide))
section
variable {w : World} {dp un : Nat} {gd : Option (List Code)} {base h₀ : Heap} {outer : List Env} {cn : Str} {cs : Scope} {L a : Addr} {ccd : Value} {s : Shared} {m mg mb : Str → Option Value} {mean : ExcName → Option Value} {news : List (Addr × Obj)} {E : Value → Shared → Prop} {Q : Value → Shared → Prop}

theorem mulC_spec {D D' : Addr} {p q p' q' nA dB : Int} {t1 t2 t1' t2' : Tok} (hx : TupG h₀ news D p q t1 t2) (hy : TupG h₀ news D' p' q' t1' t2') (h : mk nA dB = some (p', q')) (hB0 : 0 < dB) (hq : 0 < q) (hqB : q * dB < 1073741824) (hp : (p.natAbs : Int) ≤ MP) (B : Below (A0 dp un gd outer) base outer h₀) (F : Fr h₀ L s.heap m) (X : (hd.heap_39 w.params).In h₀) (N : News h₀ L s.heap news) (T : TopP mg mb mean h₀)
    (hroom : dp + 24 < recursionLimit) (hu : un + 110 < cLine) (hk : cs.kind = .function)
    (hret : ∀ u v, mk (p * p') (q * q') = some (u, v) → RetT h₀ L m news s Q u v)
    (hexc : mk (p * p') (q * q') = none → RetX w base h₀ outer cn cs L a ccd m news s E) :
    wpAny (model PySem.Challenge.rw_pq1399_01.row.prog w) ((A0 dp un gd outer).deeper (envOf cn cs L a ccd)) (call (.ref 127) [.ref D, .ref D']) Q E s := by
  obtain ⟨f1, f2, f3⟩ := mk_facts h hB0
  have l1 : q * q' ≤ q * dB := Int.mul_le_mul_of_nonneg_left f3 (Int.le_of_lt hq)
  have l2 : 1 * dB ≤ q * dB := Int.mul_le_mul_of_nonneg_right hq (Int.le_of_lt hB0)
  have l3 : q * 1 ≤ q * dB := Int.mul_le_mul_of_nonneg_left hB0 (Int.le_of_lt hq)
  exact mul_spec hx hy hq (by omega) f2 (by omega) (by omega) (mulOk_mp hp f1) B F X N T hroom hu hk hret hexc

theorem divC_spec {D D' : Addr} {p q j A₁ B₁ A₂ q₀ s1 s2 : Int} {t1 t2 t1' t2' : Tok} (hx : TupG h₀ news D p q t1 t2) (hy : TupG h₀ news D' j 1 t1' t2') (h2 : mk A₂ (q₀ * s2) = some (p, q)) (h1 : mk A₁ B₁ = some (s1, s2)) (hB1 : 0 < B₁) (hq₀ : 0 < q₀) (hj : 0 < j) (hbnd : q₀ * B₁ * j < 1073741824) (B : Below (A0 dp un gd outer) base outer h₀) (F : Fr h₀ L s.heap m) (X : (hd.heap_39 w.params).In h₀) (N : News h₀ L s.heap news) (T : TopP mg mb mean h₀)
    (hroom : dp + 24 < recursionLimit) (hu : un + 110 < cLine) (hk : cs.kind = .function)
    (hret : ∀ u v, mk (p * 1) (q * j) = some (u, v) → RetT h₀ L m news s Q u v)
    (hexc : mk (p * 1) (q * j) = none → RetX w base h₀ outer cn cs L a ccd m news s E) :
    wpAny (model PySem.Challenge.rw_pq1399_01.row.prog w) ((A0 dp un gd outer).deeper (envOf cn cs L a ccd)) (call (.ref 134) [.ref D, .ref D']) Q E s := by
  obtain ⟨f1, f2, f3⟩ := mk_facts h1 hB1
  have p0 : 0 < q₀ * s2 := Int.mul_pos hq₀ f2
  obtain ⟨g1, g2, g3⟩ := mk_facts h2 p0
  have l1 : q₀ * s2 ≤ q₀ * B₁ := Int.mul_le_mul_of_nonneg_left f3 (Int.le_of_lt hq₀)
  have l2 : q * j ≤ q₀ * B₁ * j := Int.mul_le_mul_of_nonneg_right (Int.le_trans g3 l1) (Int.le_of_lt hj)
  have l3 : q * 1 ≤ q * j := Int.mul_le_mul_of_nonneg_left hj (Int.le_of_lt g2)
  have l4 : 1 * j ≤ q * j := Int.mul_le_mul_of_nonneg_right g2 (Int.le_of_lt hj)
  exact div_spec hx hy g2 (by omega) (by omega) (by omega) hj (by omega) (by omega) B F X N T hroom hu hk hret hexc
end

/-- a step of choose's loop -/
def stepC (a b p q : Int) (j : Nat) : Option (Int × Int) :=
  match mk (a * 1 + (0 - (j : Int)) * b) (b * 1) with
  | none => none
  | some (s1, s2) => match mk (p * s1) (q * s2) with
    | none => none
    | some (m1, m2) => mk (m1 * 1) (m2 * ((j : Int) + 1))
def prodC (a b : Int) : Nat → Option (Int × Int)
  | 0 => some (1, 1)
  | k + 1 => match prodC a b k with
    | none => none
    | some (p, q) => stepC a b p q k
def takeC (a b k : Int) : Int := if b = 1 ∧ k ≤ a ∧ a < 2 * k then a - k else k
def chooseC (a b k : Int) : Option (Int × Int) := if b = 1 ∧ 0 ≤ a ∧ a < takeC a b k then some (0, 1) else prodC a b (takeC a b k).toNat
end
section
theorem rg16 : True := by
  k_with_none
  trivial
theorem rg17 : True := by
  k_with "eval Call" => (k_here; refine Call_ ?_)
  k_with "subscriptTail Name Constant ref int" => (k_here; (rename Fr _ _ _ _ => iF); (rename News _ _ _ _ => iN); (first | with_reducible refine item0 (by assumption) iF iN (by repeat (first | exact sub_refl | refine sub_cons ?_ | refine sub_app ?_)) ?_ | with_reducible refine item1 (by assumption) iF iN (by repeat (first | exact sub_refl | refine sub_cons ?_ | refine sub_app ?_)) ?_ | with_reducible refine item0 TupG.of1 iF iN sub_refl ?_ | with_reducible refine item1 TupG.of1 iF iN sub_refl ?_ | with_reducible refine item0 TupG.of2 iF iN sub_refl ?_ | with_reducible refine item1 TupG.of2 iF iN sub_refl ?_))
  k_with "eval Name" => (k_here; (with_reducible show wpAny _ _ (eval (Expr.Name (Str.ofString "MOST_PART") _) _) _ _ _); k_dflt (refine' name_K ?k1 ?k2 ?k3 nsMP ?_ ?k4 ?k5 ?k6; (case k1 => k_asm); (case k2 => k_asm); (case k3 => k_asm); (case k4 => rfl); (case k5 => rfl); (case k6 => decide)))
  k_with "exec Raise some none" => (k_here; k_dflt (refine' raise_refusal ?k1 ?k2 ?k3 ?k4 ?k5 ?k6 ?k7 ?k8 ?k9 ?k0 ?_; (case k1 => k_asm); (case k2 => k_asm); (case k3 => k_asm); (case k4 => k_asm); (case k5 => k_asm); (case k6 => rfl); (case k7 => ktr_room); (case k8 => ktr_units); (case k9 => first | rfl | assumption); (case k0 => rfl); k_whole); intro e' dx' t' h' tk' u' u'' F' N' hne')
  k_with "leaving ref" => (k_here; k_dflt (refine' leaveRaiseN ?k1 ?k2 ?k3 ?c1 ?c2 ?c3 ?c4 ?k4 ?k5 ?_ ?k6; (case k1 => k_asm); (case k2 => k_asm); (case k3 => assumption); (case c1 => rfl); (case c2 => rfl); (case c3 => rfl); (case c4 => rfl); (case k4 => (intro _ h9; cases h9)); (case k5 => assumption); (case k6 => rfl); k_whole); intro h' R' U')
  k_with "leaving ref" => (k_here; (rename FliesD _ _ _ _ _ _ _ _ _ => rF); k_dflt (refine' leaveOnD ?k1 ?k2 rF ?k4 ?k5 ?_; (case k1 => k_asm); (case k2 => assumption); (case k4 => (intro _ h9; cases h9)); (case k5 => assumption); k_whole); clear rF; intro h' R' U')
  k_with "call ref" => (k_here; k_dflt (refine' is_na_spec ?p0 ?p1 ?k1 ?k2 ?k3 ?k4 ?k5 ?k6 ?k7 ?k8 ?_; (case k1 => k_asm); (case k2 => k_asm); (case k3 => k_asm); (case k4 => k_asm); (case k5 => k_asm); (case k6 => ktr_room); (case k7 => ktr_units); (case k8 => first | rfl | assumption); (case p0 => first | exact TupG.of (by k_mem) | (refine TupG.up (by assumption) (fun _ _ e => e) ?_; repeat (first | exact sub_refl | refine sub_cons ?_ | refine sub_app ?_))); (case p1 => first | assumption | omega)); intro h' tk' F' N')
  k_with "call ref" => (k_here; k_dflt (refine' is_finite_spec ?p0 ?p1 ?k1 ?k2 ?k3 ?k4 ?k5 ?k6 ?k7 ?k8 ?_; (case k1 => k_asm); (case k2 => k_asm); (case k3 => k_asm); (case k4 => k_asm); (case k5 => k_asm); (case k6 => ktr_room); (case k7 => ktr_units); (case k8 => first | rfl | assumption); (case p0 => first | exact TupG.of (by k_mem) | (refine TupG.up (by assumption) (fun _ _ e => e) ?_; repeat (first | exact sub_refl | refine sub_cons ?_ | refine sub_app ?_))); (case p1 => first | assumption | omega)); intro h' tk' F' N')
  k_with "call ref" => (k_here; k_dflt (refine' from_int_spec  ?k1 ?k2 ?k3 ?k4 ?k5 ?k6 ?k7 ?k8 ?_; (case k1 => k_asm); (case k2 => k_asm); (case k3 => k_asm); (case k4 => k_asm); (case k5 => k_asm); (case k6 => ktr_room); (case k7 => ktr_units); (case k8 => first | rfl | assumption)); intro D' t1' t2' n' h' tk' F' N' l')
  k_with "call ref" => (k_here; k_dflt (refine' round_half_even_spec ?p0 ?p1 ?k1 ?k2 ?k3 ?k4 ?k5 ?k6 ?k7 ?k8 ?_; (case k1 => k_asm); (case k2 => k_asm); (case k3 => k_asm); (case k4 => k_asm); (case k5 => k_asm); (case k6 => ktr_room); (case k7 => ktr_units); (case k8 => first | rfl | assumption); (case p0 => first | exact TupG.of (by k_mem) | (refine TupG.up (by assumption) (fun _ _ e => e) ?_; repeat (first | exact sub_refl | refine sub_cons ?_ | refine sub_app ?_))); (case p1 => assumption)); intro D' t1' t2' n' h' tk' F' N' l')
  k_with "call ref" => (k_here; k_dflt (refine' to_whole_spec ?p0 ?k1 ?k2 ?k3 ?k4 ?k5 ?k6 ?k7 ?k8 ?_; (case k1 => k_asm); (case k2 => k_asm); (case k3 => k_asm); (case k4 => k_asm); (case k5 => k_asm); (case k6 => ktr_room); (case k7 => ktr_units); (case k8 => first | rfl | assumption); (case p0 => first | exact TupG.of (by k_mem) | (refine TupG.up (by assumption) (fun _ _ e => e) ?_; repeat (first | exact sub_refl | refine sub_cons ?_ | refine sub_app ?_)))); intro t' h' tk' F' N')
  k_with "call ref" => (k_here; k_dflt (refine' sub_spec ?p0 ?p1 ?p2 ?p3 ?p4 ?p5 ?p6 ?k1 ?k2 ?k3 ?k4 ?k5 ?k6 ?k7 ?k8 (fun p' q' hmk' D' t1' t2' n' h' tk' F' N' l' => ?_) (fun hmk' e' dx' u' u'' G' h' tk' FG9' R' U' => ?_); (case k1 => k_asm); (case k2 => k_asm); (case k3 => k_asm); (case k4 => k_asm); (case k5 => k_asm); (case k6 => ktr_room); (case k7 => ktr_units); (case k8 => first | rfl | assumption); (case p0 => first | exact TupG.of (by k_mem) | (refine TupG.up (by assumption) (fun _ _ e => e) ?_; repeat (first | exact sub_refl | refine sub_cons ?_ | refine sub_app ?_))); (case p1 => first | exact TupG.of (by k_mem) | (refine TupG.up (by assumption) (fun _ _ e => e) ?_; repeat (first | exact sub_refl | refine sub_cons ?_ | refine sub_app ?_))); (case p2 => first | assumption | omega); (case p3 => first | assumption | omega); (case p4 => first | assumption | omega); (case p5 => first | assumption | omega); (case p6 => first | assumption | omega)); skip)
  k_with "call ref" => (k_here; k_dflt (refine' mulC_spec ?p0 ?p1 ?p2 ?p3 ?p4 ?p5 ?p6 ?k1 ?k2 ?k3 ?k4 ?k5 ?k6 ?k7 ?k8 (fun p' q' hmk' D' t1' t2' n' h' tk' F' N' l' => ?_) (fun hmk' e' dx' u' u'' G' h' tk' FG9' R' U' => ?_); (case k1 => k_asm); (case k2 => k_asm); (case k3 => k_asm); (case k4 => k_asm); (case k5 => k_asm); (case k6 => ktr_room); (case k7 => ktr_units); (case k8 => first | rfl | assumption); (case p0 => first | exact TupG.of (by k_mem) | (refine TupG.up (by assumption) (fun _ _ e => e) ?_; repeat (first | exact sub_refl | refine sub_cons ?_ | refine sub_app ?_))); (case p1 => first | exact TupG.of (by k_mem) | (refine TupG.up (by assumption) (fun _ _ e => e) ?_; repeat (first | exact sub_refl | refine sub_cons ?_ | refine sub_app ?_))); (case p2 => assumption); (case p3 => first | assumption | omega); (case p4 => first | assumption | omega); (case p6 => assumption); (case p5 => first | assumption | omega)); skip)
  k_with "call ref" => (k_here; k_dflt (refine' divC_spec ?p0 ?p1 ?p2 ?p3 ?p4 ?p5 ?p6 ?p7 ?k1 ?k2 ?k3 ?k4 ?k5 ?k6 ?k7 ?k8 (fun p' q' hmk' D' t1' t2' n' h' tk' F' N' l' => ?_) (fun hmk' e' dx' u' u'' G' h' tk' FG9' R' U' => ?_); (case k1 => k_asm); (case k2 => k_asm); (case k3 => k_asm); (case k4 => k_asm); (case k5 => k_asm); (case k6 => ktr_room); (case k7 => ktr_units); (case k8 => first | rfl | assumption); (case p0 => first | exact TupG.of (by k_mem) | (refine TupG.up (by assumption) (fun _ _ e => e) ?_; repeat (first | exact sub_refl | refine sub_cons ?_ | refine sub_app ?_))); (case p1 => first | exact TupG.of (by k_mem) | (refine TupG.up (by assumption) (fun _ _ e => e) ?_; repeat (first | exact sub_refl | refine sub_cons ?_ | refine sub_app ?_))); (case p2 => assumption); (case p3 => assumption); (case p4 => first | assumption | omega); (case p5 => first | assumption | omega); (case p6 => first | assumption | omega); (case p7 => first | assumption | omega)); skip)
  k_with "binaryOp Mult int int" => (k_here; refine mul_int ?_ (by first | assumption | exact IntMulOk.of_right (PySem.intBits_le_64 (by omega) (by omega)) | exact IntMulOk.of_left (PySem.intBits_le_64 (by omega) (by omega)) | exact IntMulOk.of_right (by decide)))
  trivial
def Halt (P : Prop) : Prop := P
theorem Halt.out {P : Prop} (h : Halt P) : P := h
theorem Halt.inn {P : Prop} (h : P) : Halt P := h
local macro_rules | `(tactic| walk_at "pyIter ref") => `(tactic| (k_here; refine Halt.out ?_))
section
variable {w : World} {dp un : Nat} {gd : Option (List Code)} {base h₀ : Heap} {outer : List Env} {cn : Str} {cs : Scope} {L a : Addr} {ccd : Value} {s : Shared} {m mg mb : Str → Option Value} {mean : ExcName → Option Value} {news : List (Addr × Obj)} {E : Value → Shared → Prop} {Q : Value → Shared → Prop}

theorem takeC_1 {a b k : Int} (hk : 0 ≤ k) (h : (b = 1 ∧ 0 ≤ a ∧ a < takeC a b k) ∨ takeC a b k ≤ 6) : b = 1 → k ≤ a → a < 2 * k → a - k ≤ 6 := by
  intro h1 h2 h3
  unfold takeC at h
  rw [if_pos ⟨h1, h2, h3⟩] at h
  omega
theorem takeC_2 {a b k : Int} (h : (b = 1 ∧ 0 ≤ a ∧ a < takeC a b k) ∨ takeC a b k ≤ 6) : ¬ (b = 1 ∧ k ≤ a ∧ a < 2 * k) → (b = 1 ∧ 0 ≤ a ∧ a < k) ∨ k ≤ 6 := by
  intro h1
  unfold takeC at h
  rw [if_neg h1] at h
  exact h
theorem chooseC_zero {a b k : Int} (h1 : b = 1) (h2 : 0 ≤ a) (h3 : a < k) : chooseC a b k = some (0, 1) := by
  have e : takeC a b k = k := by unfold takeC; rw [if_neg (by omega)]
  unfold chooseC
  rw [e, if_pos ⟨h1, h2, h3⟩]
theorem chooseC_fold {a b k : Int} (hk : 0 ≤ k) (h1 : b = 1) (h2 : k ≤ a) (h3 : a < 2 * k) : chooseC a b k = prodC a b (a - k).toNat := by
  have e : takeC a b k = a - k := by unfold takeC; rw [if_pos ⟨h1, h2, h3⟩]
  unfold chooseC
  rw [e, if_neg (by omega)]
theorem chooseC_plain {a b k : Int} (h1 : ¬ (b = 1 ∧ k ≤ a ∧ a < 2 * k)) (h2 : ¬ (b = 1 ∧ 0 ≤ a ∧ a < k)) : chooseC a b k = prodC a b k.toNat := by
  have e : takeC a b k = k := by unfold takeC; rw [if_neg h1]
  unfold chooseC
  rw [e, if_neg h2]
theorem prodC_none {a b : Int} : ∀ {n i : Nat}, i ≤ n → prodC a b i = none → prodC a b n = none
  | 0, i, h, e => by
    have : i = 0 := by omega
    rw [← this]; exact e
  | n + 1, i, h, e => by
    by_cases hi : i = n + 1
    · rw [← hi]; exact e
    · have := prodC_none (n := n) (by omega) e
      show (match prodC a b n with | none => none | some (p, q) => stepC a b p q n) = none
      rw [this]
theorem prodC_next {a b p q : Int} {i : Nat} (h : prodC a b i = some (p, q)) : prodC a b (i + 1) = stepC a b p q i := by
  show (match prodC a b i with | none => none | some (p, q) => stepC a b p q i) = _
  rw [h]
/-- the bound of a product's lower part -/
def qb : Nat → Int
  | 0 => 1
  | j + 1 => qb j * 7 * ((j : Int) + 1)
theorem qb_pos : ∀ j, 0 < qb j
  | 0 => by decide
  | j + 1 => Int.mul_pos (Int.mul_pos (qb_pos j) (by decide)) (by omega)
theorem stepC_facts {a b p q u v : Int} {j : Nat} (hb : 0 < b) (hb7 : b ≤ 7) (hq : 0 < q) (hqb : q ≤ qb j) (h : stepC a b p q j = some (u, v)) : (u.natAbs : Int) ≤ MP ∧ 0 < v ∧ v ≤ qb (j + 1) := by
  unfold stepC at h
  split at h
  · cases h
  · rename_i s1 s2 e1
    split at h
    · cases h
    · rename_i m1 m2 e2
      obtain ⟨_, f2, f3⟩ := mk_facts e1 (by omega)
      have p0 : 0 < q * s2 := Int.mul_pos hq f2
      obtain ⟨_, g2, g3⟩ := mk_facts e2 p0
      obtain ⟨k1, k2, k3⟩ := mk_facts h (Int.mul_pos g2 (by omega))
      refine ⟨k1, k2, Int.le_trans k3 ?_⟩
      have l1 : q * s2 ≤ q * 7 := Int.mul_le_mul_of_nonneg_left (by omega) (Int.le_of_lt hq)
      have l2 : q * 7 ≤ qb j * 7 := Int.mul_le_mul_of_nonneg_right hqb (by decide)
      exact Int.mul_le_mul_of_nonneg_right (by omega) (by omega)
theorem prodC_facts {a b : Int} (hb : 0 < b) (hb7 : b ≤ 7) : ∀ {j : Nat} {p q : Int}, prodC a b j = some (p, q) → (p.natAbs : Int) ≤ MP ∧ 0 < q ∧ q ≤ qb j
  | 0, p, q, h => by
    cases h
    exact ⟨mp_pos, by decide, by decide⟩
  | j + 1, p, q, h => by
    cases e : prodC a b j with
    | none => rw [prodC_none (Nat.le_succ j) e] at h; cases h
    | some r =>
      obtain ⟨p', q'⟩ := r
      obtain ⟨h1, h2, h3⟩ := prodC_facts hb hb7 e
      rw [prodC_next e] at h
      exact stepC_facts hb hb7 h2 h3 h
theorem qb_small {j : Nat} (h : j < 6) : qb j * 7 * ((j : Int) + 1) < 1073741824 := by
  have : j = 0 ∨ j = 1 ∨ j = 2 ∨ j = 3 ∨ j = 4 ∨ j = 5 := by omega
  rcases this with rfl | rfl | rfl | rfl | rfl | rfl <;> decide
theorem prod_small {a b p q : Int} {i : Nat} (hb : 0 < b) (hb7 : b ≤ 7) (hi : i < 6) (h : prodC a b i = some (p, q)) : q * (b * 1) * (0 + (i : Int) + 1) < 1073741824 ∧ q * (b * 1) < 1073741824 := by
  obtain ⟨_, h2, h3⟩ := prodC_facts hb hb7 h
  have l1 : q * (b * 1) ≤ q * 7 := Int.mul_le_mul_of_nonneg_left (by omega) (Int.le_of_lt h2)
  have l2 : q * 7 ≤ qb i * 7 := Int.mul_le_mul_of_nonneg_right h3 (by decide)
  have l3 : q * (b * 1) * ((i : Int) + 1) ≤ qb i * 7 * ((i : Int) + 1) := Int.mul_le_mul_of_nonneg_right (by omega) (by omega)
  have l4 := qb_small hi
  have l5 : q * (b * 1) * 1 ≤ q * (b * 1) * ((i : Int) + 1) := Int.mul_le_mul_of_nonneg_left (by omega) (Int.le_of_lt (Int.mul_pos h2 (by omega)))
  rw [Int.zero_add]
  omega
theorem stepC_some {a b p q s1 s2 m1 m2 u v : Int} {i : Nat} (h1 : mk (a * 1 + (0 - (0 + (i : Int))) * b) (b * 1) = some (s1, s2)) (h2 : mk (p * s1) (q * s2) = some (m1, m2)) (h3 : mk (m1 * 1) (m2 * (0 + (i : Int) + 1)) = some (u, v)) : stepC a b p q i = some (u, v) := by
  rw [Int.zero_add] at h1 h3
  unfold stepC
  rw [h1]
  dsimp only
  rw [h2]
  exact h3
theorem stepC_none1 {a b p q : Int} {i : Nat} (h1 : mk (a * 1 + (0 - (0 + (i : Int))) * b) (b * 1) = none) : stepC a b p q i = none := by
  rw [Int.zero_add] at h1
  unfold stepC
  rw [h1]
theorem stepC_none2 {a b p q s1 s2 : Int} {i : Nat} (h1 : mk (a * 1 + (0 - (0 + (i : Int))) * b) (b * 1) = some (s1, s2)) (h2 : mk (p * s1) (q * s2) = none) : stepC a b p q i = none := by
  rw [Int.zero_add] at h1
  unfold stepC
  rw [h1]
  dsimp only
  rw [h2]
theorem stepC_none3 {a b p q s1 s2 m1 m2 : Int} {i : Nat} (h1 : mk (a * 1 + (0 - (0 + (i : Int))) * b) (b * 1) = some (s1, s2)) (h2 : mk (p * s1) (q * s2) = some (m1, m2)) (h3 : mk (m1 * 1) (m2 * (0 + (i : Int) + 1)) = none) : stepC a b p q i = none := by
  rw [Int.zero_add] at h1 h3
  unfold stepC
  rw [h1]
  dsimp only
  rw [h2]
  exact h3
theorem range_loop0 {prog : Program} {w : World} {A : Around} {E : Value → Shared → Prop} {s : Shared} {env : Env} {h₀ : Heap} {x : Str} {body : List Stmt} {Q : Flow → Shared → Prop} {r : Addr} {κ : Int} {t₀ u₀ v₀ : Tok} {m₀ : Str → Option Value} {news : List (Addr × Obj)} (J : Nat → (Str → Option Value) → List (Addr × Obj) → Prop)
    (hr : IsRange s.heap r 0 κ 1 t₀ u₀ v₀) (F : Fr h₀ env.locals s.heap m₀) (N : News h₀ env.locals s.heap news) (h6 : 0 ≤ κ ∧ κ < 2 ^ 62) (hh : A.handled = none) (h0 : J 0 m₀ news)
    (turn : ∀ i t m₁ nx h tk own, i < κ.toNat → J i m₁ nx → (∀ q ∈ own, ∀ p ∈ nx, q.1 ≠ p.1) → Fr h₀ env.locals h (fun y => if y = x then some (.int (0 + (i : Nat)) t) else m₁ y) → News h₀ env.locals h (own ++ nx) →
      wpAny (model prog w) A (execs body env) (TurnEnd h₀ env.locals own (J (i + 1)) { s with heap := h, toks := tk } Q) E { s with heap := h, toks := tk })
    (done : ∀ m₁ nx h tk, J κ.toNat m₁ nx → Fr h₀ env.locals h m₁ → News h₀ env.locals h nx → Q .next { s with heap := h, toks := tk }) :
    wpAny (model prog w) A (pyIter (.ref r)) (fun it s₂ => LoopAtV prog w A h₀ env x body Q E it s₂) E s :=
  range_loop J hh hr (small_one (by decide) (by decide) (by omega) h6.2) (by rw [rangeSize_nat, Int.sub_zero]) F N h0 turn done

/-- a turn's end: one new pair is kept -/
theorem turn_end {h₀ h' : Heap} {L Dn : Addr} {on : Obj} {own nx rest : List (Addr × Obj)} {m' : Str → Option Value} {Jn : (Str → Option Value) → List (Addr × Obj) → Prop} {s₁ : Shared} {tk : Tok} {Q : Flow → Shared → Prop} (F : Fr h₀ L h' m') (N : News h₀ L h' rest)
    (hn : (Dn, on) ∈ rest) (hr : ∀ z ∈ own ++ nx, z ∈ rest) (hlt : ∀ z ∈ own, z.1 < Dn) (ho : ∀ q ∈ own, ∀ p ∈ nx, q.1 ≠ p.1) (hJ : Jn m' ((Dn, on) :: nx)) : TurnEnd h₀ L own Jn s₁ Q .next { s₁ with heap := h', toks := tk } := by
  refine ⟨h', tk, m', (Dn, on) :: nx, rfl, F, fun z hz => N z ?_, fun q hq p hp => ?_, hJ⟩
  · rcases List.mem_append.mp hz with hz | hz
    · exact hr z (List.mem_append_left _ hz)
    · rcases List.mem_cons.mp hz with rfl | hz
      · exact hn
      · exact hr z (List.mem_append_right _ hz)
  · rcases List.mem_cons.mp hp with rfl | hp
    · exact Nat.ne_of_lt (hlt q hq)
    · exact ho q hq p hp

/-- a pair that stands in the written part or in the ledger -/
structure TupK (w : World) (news : List (Addr × Obj)) (D : Addr) (p q : Int) (t1 t2 : Tok) : Prop where
  ex : ∃ o, (o.cls = .type "tuple" ∧ ∃ n, o.data = .seq #[.int p t1, .int q t2] n) ∧ ((hd.heap_39 w.params).lookup D = some o ∨ (D, o) ∈ news)
theorem TupK.to {w : World} {g : Heap} {news : List (Addr × Obj)} {D : Addr} {p q : Int} {t1 t2 : Tok} (x : TupK w news D p q t1 t2) (X : (hd.heap_39 w.params).In g) : TupG g news D p q t1 t2 := by
  obtain ⟨o, h1, h2 | h2⟩ := x.ex
  · exact ⟨⟨o, h1, .inl (X _ _ h2)⟩⟩
  · exact ⟨⟨o, h1, .inr h2⟩⟩
theorem TupK.sub {w : World} {news news' : List (Addr × Obj)} {D : Addr} {p q : Int} {t1 t2 : Tok} (x : TupK w news D p q t1 t2) (hs : ∀ z ∈ news, z ∈ news') : TupK w news' D p q t1 t2 := by
  obtain ⟨o, h1, h2 | h2⟩ := x.ex
  · exact ⟨⟨o, h1, .inl h2⟩⟩
  · exact ⟨⟨o, h1, .inr (hs _ h2)⟩⟩
theorem TupK.of {w : World} {news : List (Addr × Obj)} {D : Addr} {p q : Int} {t1 t2 : Tok} {n : Nat} : TupK w ((D, ({ cls := .type "tuple", data := .seq #[.int p t1, .int q t2] n } : Obj)) :: news) D p q t1 t2 := ⟨⟨_, ⟨rfl, _, rfl⟩, .inr (.head _)⟩⟩
/-- a pair's way back: it stands in the written part, or on the ledger -/
abbrev RetG (w : World) (h₀ : Heap) (L : Addr) (m : Str → Option Value) (news : List (Addr × Obj)) (s : Shared) (Q : Value → Shared → Prop) (p q : Int) : Prop :=
  ∀ D t1 t2 nx h' tk', Fr h₀ L h' m → News h₀ L h' nx → (∀ z ∈ news, z ∈ nx) → TupK w nx D p q t1 t2 → Q (.ref D) { s with heap := h', toks := tk' }

def loopBody : List Stmt → List Stmt
  | .For _ _ b _ _ :: _ => b
  | _ :: r => loopBody r
  | [] => []

theorem choose_loop {oc : Value} {od : Option Addr} {name qual : Str} {params : Arguments} {bd : List Stmt} {sc : Scope} {dV kV doc pm cdv ct : Value} {an : Option Addr} {osl : Array (Option Value)} (hsc : (hd.heap_39 w.params).lookup 176 = some ⟨oc, od, .func (fnOf name qual params bd sc dV kV doc pm an cdv ct), osl⟩)
    {a' L' r : Addr} {g' : Heap} {s₁ : Shared} {D : Addr} {a b κ : Int} {t1 t2 t₀ u₀ v₀ : Tok} {m₀ : Str → Option Value} {nx₀ : List (Addr × Obj)} {Q₁ : Flow → Shared → Prop} {E₁ : Value → Shared → Prop}
    (X' : (hd.heap_39 w.params).In g') (T' : TopP mg mb mean g') (B' : Below ((A0 dp un gd outer).deeper (envOf cn cs L a' ccd)) base (envOf cn cs L a' ccd :: outer) g')
    (hroom : dp + 48 < recursionLimit) (hu : un + 220 < cLine) (hx' : TupG g' news D a b t1 t2) (hb : 0 < b) (hb7 : b ≤ 7) (hκ0 : 0 ≤ κ) (hκ6 : κ ≤ 6)
    (hr : IsRange s₁.heap r 0 κ 1 t₀ u₀ v₀) (F₀ : Fr g' L' s₁.heap m₀) (N₀ : News g' L' s₁.heap nx₀) (hsub₀ : ∀ z ∈ news, z ∈ nx₀) {Df₀ : Addr} {o1 o2 : Tok} (hf₀ : m₀ (Str.ofString "found") = some (.ref Df₀)) (hx₀ : m₀ (Str.ofString "x") = some (.ref D)) (one50 : TupK w news Df₀ 1 1 o1 o2)
    (hexc : prodC a b κ.toNat = none → ∀ m₁, RetX w base g' (envOf cn cs L a' ccd :: outer) (Str.ofString "choose") sc L' 176 (.ref 175) m₁ news s₁ E₁)
    (hdone : ∀ p q, prodC a b κ.toNat = some (p, q) → ∀ m₁ nx h tk Df u1 u2, Fr g' L' h m₁ → News g' L' h nx → (∀ z ∈ news, z ∈ nx) → m₁ (Str.ofString "found") = some (.ref Df) → TupK w nx Df p q u1 u2 → Q₁ .next { s₁ with heap := h, toks := tk }) :
    wpAny (model PySem.Challenge.rw_pq1399_01.row.prog w) (((A0 dp un gd outer).deeper (envOf cn cs L a' ccd)).deeper (envOf (Str.ofString "choose") sc L' 176 (.ref 175))) (pyIter (.ref r))
      (fun it s₂ => LoopAtV PySem.Challenge.rw_pq1399_01.row.prog w (((A0 dp un gd outer).deeper (envOf cn cs L a' ccd)).deeper (envOf (Str.ofString "choose") sc L' 176 (.ref 175))) g' (envOf (Str.ofString "choose") sc L' 176 (.ref 175)) (Str.ofString "j") (loopBody bd) Q₁ E₁ it s₂) E₁ s₁ := by
  have e := hsc.symm.trans (show (hd.heap_39 w.params).lookup 176 = _ by k_is)
  cases e
  clear hsc
  dsimp only [loopBody]
  refine range_loop0 (fun i m₁ nx => (∀ z ∈ news, z ∈ nx) ∧ ∃ p q Df u1 u2, prodC a b i = some (p, q) ∧ m₁ (Str.ofString "found") = some (.ref Df) ∧ m₁ (Str.ofString "x") = some (.ref D) ∧ TupK w nx Df p q u1 u2) hr F₀ N₀ (by omega) rfl ⟨hsub₀, 1, 1, _, o1, o2, rfl, hf₀, hx₀, one50.sub hsub₀⟩ ?_ ?_
  · intro i t m₁ nx h tk own hi hj hoff F₁ N₁
    obtain ⟨hsub, p, q, Df, u1, u2, hp, hf, hxm, hT⟩ := hj
    have F₁ := fr_kst [(Str.ofString "j", .int (0 + (i : Nat)) t), (Str.ofString "found", .ref Df), (Str.ofString "x", .ref D)] F₁ (by intro z hz; simp only [List.mem_cons, List.not_mem_nil, or_false] at hz; rcases hz with rfl | rfl | rfl <;> first | rfl | exact hf | exact hxm)
    simp only [kstB] at F₁
    obtain ⟨hq1, hq2⟩ := prod_small hb hb7 (by omega) hp
    obtain ⟨hpM, hq0, hqb⟩ := prodC_facts hb hb7 hp
    have hT' := hT.to X'
    have hx'' := hx'.up (fun _ _ e => e) hsub
    k_steps
    all_goals first
      | exact hexc (prodC_none (i := i + 1) (by omega) ((prodC_next hp).trans (by first | exact stepC_none1 (by assumption) | exact stepC_none2 (by assumption) (by assumption) | exact stepC_none3 (by assumption) (by assumption) (by assumption)))) _ _ _ _ _ _ _ _ (by assumption) (FliesD.less (by assumption) (fun z hz => by have h9 := hsub z hz; simp only [List.mem_cons, List.mem_append, h9, or_true])) (by assumption)
      | refine turn_end (by assumption) (by assumption) (.head _) (fun z hz => .tail _ (.tail _ (.tail _ (.tail _ (.tail _ hz))))) (by have l9 : ∀ y ∈ _, Prod.fst y < _ := (by assumption); exact fun z hz => l9 z (.tail _ (.tail _ (.tail _ (.tail _ (List.mem_append_left _ hz)))))) hoff ⟨fun z hz => .tail _ (hsub z hz), _, _, _, _, _, (prodC_next hp).trans (stepC_some (by assumption) (by assumption) (by assumption)), rfl, rfl, TupK.of⟩
  · intro m₁ nx h tk hj F₁ N₁
    obtain ⟨hsub, p, q, Df, u1, u2, hp, hf, hxm, hT⟩ := hj
    exact hdone p q hp m₁ nx h tk Df u1 u2 F₁ N₁ hsub hf hT

theorem choose_spec {a' : Addr} {D D' : Addr} {a b k : Int} {t1 t2 t1' t2' : Tok} (hx : TupG h₀ news D a b t1 t2) (hy : TupG h₀ news D' k 1 t1' t2') (hb : 0 < b) (hb7 : b ≤ 7) (ha : (a.natAbs : Int) ≤ MP) (hk0 : 0 ≤ k) (hk1 : k < 100000) (hM : (k.natAbs : Int) ≤ MP)
    (hs : (b = 1 ∧ 0 ≤ a ∧ a < takeC a b k) ∨ takeC a b k ≤ 6) (B : Below (A0 dp un gd outer) base outer h₀) (F : Fr h₀ L s.heap m) (X : (hd.heap_39 w.params).In h₀) (N : News h₀ L s.heap news) (T : TopP mg mb mean h₀)
    (hroom : dp + 48 < recursionLimit) (hu : un + 220 < cLine) (hk : cs.kind = .function)
    (hret : ∀ u v, chooseC a b k = some (u, v) → RetG w h₀ L m news s Q u v)
    (hexc : chooseC a b k = none → RetX w base h₀ outer cn cs L a' ccd m news s E) :
    wpAny (model PySem.Challenge.rw_pq1399_01.row.prog w) ((A0 dp un gd outer).deeper (envOf cn cs L a' ccd)) (call (.ref 176) [.ref D, .ref D']) Q E s := by
  k_dflt (refine' enterK [(Str.ofString "x", .ref D), (Str.ofString "y", .ref D')] B F X N T ?kA ?kF ?kK ?k6 ?k7 ?k8 ?k9 ?kB ?_ ?c2 ?c3 ?c4 ?c5; (case kA => exact rfl); (case kF => exact rfl); (case kK => assumption); (case k6 => k_is); (case k7 => k_is); (case k8 => ktr_room); (case k9 => exact BindsTo.of_eq rfl); (case c5 => decide); (case kB => exact locs rfl); (case c2 => exact rfl); (case c3 => exact rfl); (case c4 => exact rfl))
  intro g' L' h' FG' F' N' B' X' T'
  simp only [List.reverse_cons, List.reverse_nil, List.nil_append, List.cons_append, kstB] at F'
  have hx' := hx.up FG'.keep sub_refl
  have hy' := hy.up FG'.keep sub_refl
  have hT1 : b = 1 → k ≤ a → a < 2 * k → a - k ≤ 6 := takeC_1 hk0 hs
  have hT2 : ¬ (b = 1 ∧ k ≤ a ∧ a < 2 * k) → (b = 1 ∧ 0 ≤ a ∧ a < k) ∨ k ≤ 6 := takeC_2 hs
  clear hs
  have zero49 : ∃ z1 z2, TupK w news 49 0 1 z1 z2 := ⟨_, _, ⟨_, ⟨rfl, _, rfl⟩, .inl (by k_is)⟩⟩
  have one50 : ∃ z1 z2, TupK w news 50 1 1 z1 z2 := ⟨_, _, ⟨_, ⟨rfl, _, rfl⟩, .inl (by k_is)⟩⟩
  obtain ⟨o1, o2, one50⟩ := one50
  obtain ⟨z1, z2, zero49⟩ := zero49
  k_steps
  all_goals first | (exfalso; omega) | skip
  all_goals first | exact hret 0 1 (chooseC_zero (by omega) (by omega) (by omega)) _ _ _ _ _ _ (by assumption) (by assumption) (fun z hz => .tail _ hz) (zero49.sub (fun z hz => .tail _ hz)) | skip
  all_goals (
    refine Halt.inn ?_
    first | have he := chooseC_fold hk0 (by assumption : b = 1) (by assumption : k ≤ a) (by assumption) | have he := @chooseC_plain a b k (by omega) (by omega)
    have hsc := (show (hd.heap_39 w.params).lookup 176 = _ by k_is)
    refine choose_loop hsc X' T' B' hroom hu hx' hb hb7 ?_ ?_ (by assumption) (by assumption) (by assumption) (fun z hz => .tail _ hz) rfl rfl one50 ?_ ?_
    · omega
    · omega
    · intro hn m₁ e' dx' u' u'' G' h' tk' FG₁ R₁ U₁
      k_steps
      exact hexc (he.trans hn) _ _ _ _ _ _ _ FG' (by assumption) (by assumption)
    · intro p q hp m₁ nx h tk Df u1 u2 F₁ N₁ hsub hf hT
      have F₁ := fr_kst [(Str.ofString "found", .ref Df)] F₁ (by intro z hz; simp only [List.mem_cons, List.not_mem_nil, or_false] at hz; rcases hz with rfl; exact hf)
      simp only [kstB] at F₁
      k_steps
      exact hret _ _ (he.trans hp) _ _ _ _ _ _ (by assumption) (by assumption) hsub hT)
end
end
section
theorem rg18 : True := by
  k_with_none
  trivial
theorem rg19 : True := by
  k_with "eval Call" => (k_here; refine Call_ ?_)
  k_with "subscriptTail Name Constant ref int" => (k_here; (rename Fr _ _ _ _ => iF); (rename News _ _ _ _ => iN); (first | with_reducible refine item0 (by assumption) iF iN (by repeat (first | exact sub_refl | refine sub_cons ?_ | refine sub_app ?_)) ?_ | with_reducible refine item1 (by assumption) iF iN (by repeat (first | exact sub_refl | refine sub_cons ?_ | refine sub_app ?_)) ?_ | with_reducible refine item0 TupG.of1 iF iN sub_refl ?_ | with_reducible refine item1 TupG.of1 iF iN sub_refl ?_ | with_reducible refine item0 TupG.of2 iF iN sub_refl ?_ | with_reducible refine item1 TupG.of2 iF iN sub_refl ?_))
  k_with "eval Name" => (k_here; (with_reducible show wpAny _ _ (eval (Expr.Name (Str.ofString "MOST_PART") _) _) _ _ _); k_dflt (refine' name_K ?k1 ?k2 ?k3 nsMP ?_ ?k4 ?k5 ?k6; (case k1 => k_asm); (case k2 => k_asm); (case k3 => k_asm); (case k4 => rfl); (case k5 => rfl); (case k6 => decide)))
  k_with "exec Raise some none" => (k_here; k_dflt (refine' raise_refusal ?k1 ?k2 ?k3 ?k4 ?k5 ?k6 ?k7 ?k8 ?k9 ?k0 ?_; (case k1 => k_asm); (case k2 => k_asm); (case k3 => k_asm); (case k4 => k_asm); (case k5 => k_asm); (case k6 => rfl); (case k7 => ktr_room); (case k8 => ktr_units); (case k9 => first | rfl | assumption); (case k0 => rfl); k_whole); intro e' dx' t' h' tk' u' u'' F' N' hne')
  k_with "leaving ref" => (k_here; k_dflt (refine' leaveRaiseN ?k1 ?k2 ?k3 ?c1 ?c2 ?c3 ?c4 ?k4 ?k5 ?_ ?k6; (case k1 => k_asm); (case k2 => k_asm); (case k3 => assumption); (case c1 => rfl); (case c2 => rfl); (case c3 => rfl); (case c4 => rfl); (case k4 => (intro _ h9; cases h9)); (case k5 => assumption); (case k6 => rfl); k_whole); intro h' R' U')
  k_with "leaving ref" => (k_here; (rename FliesD _ _ _ _ _ _ _ _ _ => rF); k_dflt (refine' leaveOnD ?k1 ?k2 rF ?k4 ?k5 ?_; (case k1 => k_asm); (case k2 => assumption); (case k4 => (intro _ h9; cases h9)); (case k5 => assumption); k_whole); clear rF; intro h' R' U')
  k_with "call ref" => (k_here; k_dflt (refine' is_na_spec ?p0 ?p1 ?k1 ?k2 ?k3 ?k4 ?k5 ?k6 ?k7 ?k8 ?_; (case k1 => k_asm); (case k2 => k_asm); (case k3 => k_asm); (case k4 => k_asm); (case k5 => k_asm); (case k6 => ktr_room); (case k7 => ktr_units); (case k8 => first | rfl | assumption); (case p0 => first | exact TupG.of (by k_mem) | (refine TupG.up (by assumption) (fun _ _ e => e) ?_; repeat (first | exact sub_refl | refine sub_cons ?_ | refine sub_app ?_))); (case p1 => first | assumption | omega)); intro h' tk' F' N')
  k_with "call ref" => (k_here; k_dflt (refine' make_spec ?p0 ?p1 ?k1 ?k2 ?k3 ?k4 ?k5 ?k6 ?k7 ?k8 (fun p' q' hmk' D' t1' t2' n' h' tk' F' N' l' => ?_) (fun hmk' e' dx' u' u'' G' h' tk' FG9' R' U' => ?_); (case k1 => k_asm); (case k2 => k_asm); (case k3 => k_asm); (case k4 => k_asm); (case k5 => k_asm); (case k6 => ktr_room); (case k7 => ktr_units); (case k8 => first | rfl | assumption); (case p0 => first | assumption | omega | decide); (case p1 => first | assumption | omega | decide)); skip)
  k_with "binaryOp Mult int int" => (k_here; refine mul_int ?_ (by first | assumption | exact IntMulOk.of_right (PySem.intBits_le_64 (by omega) (by omega)) | exact IntMulOk.of_left (PySem.intBits_le_64 (by omega) (by omega)) | exact IntMulOk.of_right (by decide)))
  trivial
local macro_rules | `(tactic| walk_at "pyIter ref") => `(tactic| (k_here; refine Halt.out ?_))

theorem eqv_pairs (p q p' q' : Int) : PyData.eqv (.tuple [.int p, .int q]) (.tuple [.int p', .int q']) = (decide (p = p') && decide (q = q')) := by
  simp only [PyData.eqv, PyData.eqvAll, Bool.and_true]
  by_cases h1 : p = p' <;> by_cases h2 : q = q' <;> simp [h1, h2]
section
variable {prog : Program} {w : World} {A : Around} {E : Value → Shared → Prop} {s : Shared} {g g2 : Heap} {L : Addr} {m : Str → Option Value} {n1 n2 ns : List (Addr × Obj)} {D D' : Addr} {p q p' q' : Int} {t1 t2 t1' t2' : Tok} {Q : Value → Shared → Prop}
theorem eq_pairs (x : TupG g n1 D p q t1 t2) (y : TupG g n2 D' p' q' t1' t2') (F : Fr g L s.heap m) (N : News g L s.heap ns) (h1 : ∀ z ∈ n1, z ∈ ns) (h2 : ∀ z ∈ n2, z ∈ ns) (hu : A.units + 64 < cLine)
    (h : Q (.bool (decide (p = p') && decide (q = q'))) s) : wpAny (model prog w) A (compareOp .Eq (.ref D) (.ref D')) Q E s :=
  eq_dataH (x.reads F N h1) (y.reads F N h2) rfl rfl hu (by rw [eqv_pairs]; exact h)
theorem ne_pairs (x : TupG g n1 D p q t1 t2) (y : TupG g n2 D' p' q' t1' t2') (F : Fr g L s.heap m) (N : News g L s.heap ns) (h1 : ∀ z ∈ n1, z ∈ ns) (h2 : ∀ z ∈ n2, z ∈ ns) (hu : A.units + 64 < cLine)
    (h : Q (.bool (!(decide (p = p') && decide (q = q')))) s) : wpAny (model prog w) A (compareOp .NotEq (.ref D) (.ref D')) Q E s :=
  ne_dataH (x.reads F N h1) (y.reads F N h2) rfl rfl hu (by rw [eqv_pairs]; exact h)
end
theorem rg20 : True := by
  k_with "compareOp Eq ref ref" => (k_here; (rename Fr _ _ _ _ => iF); (rename News _ _ _ _ => iN); k_dflt (refine' eq_pairs ?x ?y iF iN ?s1 ?s2 ?u ?_; (case x => first | assumption | exact TupG.of (by k_mem)); (case y => first | assumption | exact TupG.of (by k_mem)); (case s1 => repeat (first | exact sub_refl | refine sub_cons ?_ | refine sub_app ?_)); (case s2 => repeat (first | exact sub_refl | refine sub_cons ?_ | refine sub_app ?_)); (case u => ktr_units)))
  trivial
section
variable {w : World} {dp un : Nat} {gd : Option (List Code)} {base h₀ : Heap} {outer : List Env} {cn : Str} {cs : Scope} {L a : Addr} {ccd : Value} {s : Shared} {m mg mb : Str → Option Value} {mean : ExcName → Option Value} {news : List (Addr × Obj)} {E : Value → Shared → Prop} {Q : Value → Shared → Prop}

def facC : Nat → Int
  | 0 => 1
  | k + 1 => facC k * ((k : Int) + 1)
theorem facC_small : ∀ j : Fin 31, 0 < facC j.val ∧ facC j.val < 10 ^ 40 := by decide +kernel
theorem mp_40 : (10 : Int) ^ 40 ≤ MP := by
  unfold MP
  exact Int.le_of_lt_add_one (by decide +kernel)
theorem mk_fac {j : Nat} (h : j ≤ 30) : mk (facC j) 1 = some (facC j, 1) := by
  have h1 := facC_small ⟨j, by omega⟩
  have h2 := mp_40
  dsimp only at h1
  exact mk_one (by omega)
theorem facC_last {k : Int} (h : 0 ≤ k) : facC ((k + 1 - 2).toNat + 1) = facC k.toNat := by
  by_cases h0 : k = 0
  · subst h0
    decide
  · congr 1
    omega
theorem factorial_spec {D : Addr} {k : Int} {t1 t2 : Tok} (hx : TupG h₀ news D k 1 t1 t2) (hk0 : 0 ≤ k) (hk1 : k ≤ 30 ∨ 4096 < k) (B : Below (A0 dp un gd outer) base outer h₀) (F : Fr h₀ L s.heap m) (X : (hd.heap_39 w.params).In h₀) (N : News h₀ L s.heap news) (T : TopP mg mb mean h₀)
    (hroom : dp + 40 < recursionLimit) (hu : un + 200 < cLine) (hk : cs.kind = .function)
    (hret : k ≤ 30 → RetT h₀ L m news s Q (facC k.toNat) 1)
    (hexc : 4096 < k → RetX w base h₀ outer cn cs L a ccd m news s E) :
    wpAny (model PySem.Challenge.rw_pq1399_01.row.prog w) ((A0 dp un gd outer).deeper (envOf cn cs L a ccd)) (call (.ref 169) [.ref D]) Q E s := by
  k_dflt (refine' enterK [(Str.ofString "x", .ref D)] B F X N T ?kA ?kF ?kK ?k6 ?k7 ?k8 ?k9 ?kB ?_ ?c2 ?c3 ?c4 ?c5; (case kA => exact rfl); (case kF => exact rfl); (case kK => assumption); (case k6 => k_is); (case k7 => k_is); (case k8 => ktr_room); (case k9 => exact BindsTo.of_eq rfl); (case c5 => decide); (case kB => exact locs rfl); (case c2 => exact rfl); (case c3 => exact rfl); (case c4 => exact rfl))
  intro g' L' h' FG' F' N' B' X' T'
  simp only [List.reverse_cons, List.reverse_nil, List.nil_append, List.cons_append, kstB] at F'
  have hx' := hx.up FG'.keep sub_refl
  have inf48 : ∃ z1 z2, TupG g' news 48 1 0 z1 z2 := ⟨_, _, ⟨_, ⟨rfl, _, rfl⟩, .inl (X' 48 _ (by k_is))⟩⟩
  obtain ⟨z1, z2, inf48⟩ := inf48
  k_steps
  · exact hexc (by omega) _ _ _ _ _ _ _ FG' (by assumption) (by assumption)
  refine Halt.inn ?_
  have h30 : k ≤ 30 := by omega
  refine range_loop (n := (k + 1 - 2).toNat) (fun i m₁ nx => nx = news ∧ ∃ u, m₁ (Str.ofString "found") = some (.int (facC (i + 1)) u)) rfl (by assumption) (small_one (by decide) (by decide) (by omega) (by omega)) (rangeSize_nat _ _) (by assumption) (by assumption) ⟨rfl, _, rfl⟩ ?_ ?_
  · rintro i t m₁ nx h tk own hi ⟨rfl, u, hf⟩ hoff F₁ N₁
    have F₁ := fr_kst [(Str.ofString "k", .int (2 + (i : Nat)) t), (Str.ofString "found", .int (facC (i + 1)) u)] F₁ (by intro z hz; simp only [List.mem_cons, List.not_mem_nil, or_false] at hz; rcases hz with rfl | rfl <;> first | rfl | exact hf)
    simp only [kstB] at F₁
    k_steps
    have e : facC (i + 1) * (2 + (i : Nat)) = facC (i + 1 + 1) := by
      show _ = facC (i + 1) * (((i + 1 : Nat) : Int) + 1)
      congr 1
      omega
    exact ⟨_, _, _, nx, rfl, by assumption, by assumption, hoff, rfl, _, congrArg (fun z => some (Value.int z _)) e⟩
  · rintro m₁ nx h tk ⟨rfl, u, hf⟩ F₁ N₁
    have F₁ := fr_kst [(Str.ofString "found", .int (facC ((k + 1 - 2).toNat + 1)) u)] F₁ (by intro z hz; simp only [List.mem_cons, List.not_mem_nil, or_false] at hz; rcases hz with rfl; exact hf)
    simp only [kstB] at F₁
    rw [facC_last hk0] at F₁
    have hmf : mk (facC k.toNat) 1 = some (facC k.toNat, 1) := mk_fac (by omega)
    k_steps
    · rename mk _ _ = some _ => hm9
      rw [hmf] at hm9
      cases hm9
      exact hret h30 _ _ _ _ _ _ (by assumption) (by assumption) (by assumption)
    · rename mk _ _ = none => hm9
      rw [hmf] at hm9
      cases hm9
end
end
section
theorem rg21 : True := by
  k_with_none
  trivial
theorem coin_ne {vs : List Value} {ns : List Int} (hv : IntsAre vs ns) (h : decide (ns = []) = false) : 0 < vs.length := by
  have h1 := hv.length
  have h2 : ns ≠ [] := of_decide_eq_false h
  have h3 := List.length_pos_iff.mpr h2
  omega
theorem coin_fit {vs : List Value} {ns : List Int} (hv : IntsAre vs ns) (h : ns.length ≤ 60) : vs.length ≤ sizeLine := by
  have h1 := hv.length
  rw [PySem.sizeLine_eq]
  omega
theorem fmod_range {x k : Int} (h : 0 < k) : 0 ≤ x.fmod k ∧ x.fmod k < k := by
  rw [Int.fmod_eq_emod_of_nonneg _ (Int.le_of_lt h)]
  exact ⟨Int.emod_nonneg _ (Int.ne_of_gt h), Int.emod_lt_of_pos _ h⟩
theorem rg22 : True := by
  k_with "exec While Compare cons nil" => (k_here; refine Halt.out ?_)
  k_with "call builtin:list.pop" => (k_here; k_dflt (refine' kpa_pop ?F ?N (.tail ?a (.head ?b)) ?i ?l ?z ?_; (case F => k_asm); (case N => k_asm); (case a => exact Nat.ne_of_gt (And.left (by assumption))); (case b => assumption); (case i => assumption); (case l => exact coin_ne (by assumption) (by assumption)); (case z => exact coin_fit (by assumption) (by assumption))); (intro h' t' F' N' hI'))
  trivial
section
variable {w : World} {dp un : Nat} {gd : Option (List Code)} {base h₀ : Heap} {outer : List Env} {cn : Str} {cs : Scope} {L a : Addr} {ccd : Value} {s : Shared} {m mg mb : Str → Option Value} {mean : ExcName → Option Value} {news : List (Addr × Obj)} {E : Value → Shared → Prop} {Q : Value → Shared → Prop}

theorem coin_spec {C : Addr} {vs : List Value} {ns : List Int} {n : Nat} {many : Int} {tm : Tok} (hv : IntsAre vs ns) (hlen : ns.length ≤ 60) (hm : 0 < many) (hne : ∀ p ∈ news, p.1 ≠ C) (B : Below (A0 dp un gd outer) base outer h₀) (F : Fr h₀ L s.heap m) (X : (hd.heap_39 w.params).In h₀) (N : News h₀ L s.heap ((C, PySem.W.listOf vs.toArray n) :: news)) (T : TopP mg mb mean h₀)
    (hroom : dp + 20 < recursionLimit) (hu : un + 120 < cLine) (hk : cs.kind = .function)
    (hret : ∀ r t vs' ns' n' h' tk', 0 ≤ r → r < many → IntsAre vs' ns' → ns'.length ≤ 60 → Fr h₀ L h' m → News h₀ L h' ((C, PySem.W.listOf vs'.toArray n') :: news) → Q (.int r t) { s with heap := h', toks := tk' }) :
    wpAny (model PySem.Challenge.rw_pq1399_01.row.prog w) ((A0 dp un gd outer).deeper (envOf cn cs L a ccd)) (call (.ref 190) [.ref C, .int many tm]) Q E s := by
  k_dflt (refine' enterK [(Str.ofString "coins", .ref C), (Str.ofString "many", .int many tm)] B F X N T ?kA ?kF ?kK ?k6 ?k7 ?k8 ?k9 ?kB ?_ ?c2 ?c3 ?c4 ?c5; (case kA => exact rfl); (case kF => exact rfl); (case kK => assumption); (case k6 => k_is); (case k7 => k_is); (case k8 => ktr_room); (case k9 => exact BindsTo.of_eq rfl); (case c5 => decide); (case kB => exact locs rfl); (case c2 => exact rfl); (case c3 => exact rfl); (case c4 => exact rfl))
  intro g' L' h' FG' F' N' B' X' T'
  simp only [List.reverse_cons, List.reverse_nil, List.nil_append, List.cons_append, kstB] at F'
  k_steps
  · exact hret _ _ _ _ _ _ _ (by decide) hm hv hlen (by assumption) (cb_drop (by assumption) (fun z hz => .tail _ hz))
  · have hr := fmod_range (x := ns.getLastD 0) hm
    have hl : ns.dropLast.length ≤ 60 := by
      rw [List.length_dropLast]
      omega
    exact hret _ _ _ _ _ _ _ hr.1 hr.2 (by assumption) hl (by assumption) (cb_drop (by assumption) (fun z hz => .tail _ hz))

theorem least_spec {x y : Int} {tx ty : Tok} (hy : 0 < y) (hy1 : y < 1073741824) (B : Below (A0 dp un gd outer) base outer h₀) (F : Fr h₀ L s.heap m) (X : (hd.heap_39 w.params).In h₀) (N : News h₀ L s.heap news) (T : TopP mg mb mean h₀)
    (hroom : dp + 12 < recursionLimit) (hu : un + 60 < cLine) (hk : cs.kind = .function)
    (hret : ∀ u v, redc x y = (u, v) → RetT h₀ L m news s Q u v) :
    wpAny (model PySem.Challenge.rw_pq1399_01.row.prog w) ((A0 dp un gd outer).deeper (envOf cn cs L a ccd)) (call (.ref 197) [.int x tx, .int y ty]) Q E s := by
  k_dflt (refine' enterK [(Str.ofString "top", .int x tx), (Str.ofString "below", .int y ty)] B F X N T ?kA ?kF ?kK ?k6 ?k7 ?k8 ?k9 ?kB ?_ ?c2 ?c3 ?c4 ?c5; (case kA => exact rfl); (case kF => exact rfl); (case kK => assumption); (case k6 => k_is); (case k7 => k_is); (case k8 => ktr_room); (case k9 => exact BindsTo.of_eq rfl); (case c5 => decide); (case kB => exact locs rfl); (case c2 => exact rfl); (case c3 => exact rfl); (case c4 => exact rfl))
  intro g' L' h' FG' F' N' B' X' T'
  simp only [List.reverse_cons, List.reverse_nil, List.nil_append, List.cons_append, kstB] at F'
  k_steps
  refine Halt.inn ?_
  rename Fr _ L' _ _ => F₀
  rename News _ L' _ _ => N₀
  refine While_inv2 (fun n m₁ nx => nx = news ∧ ∃ p q tp tq, 0 ≤ p ∧ 0 ≤ q ∧ Int.gcd p q = Int.gcd x y ∧ n = q.toNat ∧ m₁ (Str.ofString "one") = some (.int p tp) ∧ m₁ (Str.ofString "other") = some (.int q tq) ∧ m₁ (Str.ofString "top") = some (.int x tx) ∧ m₁ (Str.ofString "below") = some (.int y ty)) F₀ N₀ ⟨rfl, _, y, _, ty, (by omega), Int.le_of_lt hy, gcd_abs x y, rfl, rfl, rfl, rfl, rfl⟩ ?_
  rintro n m₁ nx h₁ tk₁ F₁ N₁ ⟨rfl, p, q, tp, tq, hp, hq, hg, rfl, ha, hb, htop, hbel⟩
  have F₁ := fr_kst [(Str.ofString "one", .int p tp), (Str.ofString "other", .int q tq), (Str.ofString "top", .int x tx), (Str.ofString "below", .int y ty)] F₁ (by intro z hz; simp only [List.mem_cons, List.not_mem_nil, or_false] at hz; rcases hz with rfl | rfl | rfl | rfl <;> assumption)
  simp only [kstB] at F₁
  have hg0 : 0 < ((Int.gcd x y : Nat) : Int) := by
    have := gcd_posAbs x hy
    rw [gcd_abs] at this
    exact this
  have hend : q = 0 → p = ((Int.gcd x y : Nat) : Int) := fun h => by
    have e := gcd_end hp hq (by omega)
    rw [hg] at e
    exact e.symm
  have hgl : ((Int.gcd x y : Nat) : Int) ≤ y := Int.le_of_dvd hy (Int.gcd_dvd_right _ _)
  have hpz : q = 0 → 0 < p ∧ p < 1073741824 := fun h => by
    have := hend h
    omega
  k_steps
  · rename Fr _ _ _ _ => F₉
    rename News _ _ _ _ => N₉
    have hq0 : 0 < q := by omega
    refine ⟨_, _, _, nx, (p.fmod q).toNat, rfl, F₉, fun z hz => N₉ z (.tail _ hz), (fmod_less hq0).2, rfl, q, p.fmod q, tq, _, hq, (fmod_less hq0).1, (gcd_step hq).trans hg, rfl, rfl, rfl, rfl, rfl⟩
  · have e := hend (by omega)
    subst e
    exact hret _ _ rfl _ _ _ _ _ _ (by assumption) (by assumption) (by assumption)
end
end
section
theorem rg23 : True := by
  k_with_none
  trivial
theorem rg24 : True := by
  k_with "eval Call" => (k_here; refine Call_ ?_)
  k_with "subscriptTail Name Constant ref int" => (k_here; (rename Fr _ _ _ _ => iF); (rename News _ _ _ _ => iN); (first | with_reducible refine item0 (by assumption) iF iN (by repeat (first | exact sub_refl | refine sub_cons ?_ | refine sub_app ?_)) ?_ | with_reducible refine item1 (by assumption) iF iN (by repeat (first | exact sub_refl | refine sub_cons ?_ | refine sub_app ?_)) ?_ | with_reducible refine item0 TupG.of1 iF iN sub_refl ?_ | with_reducible refine item1 TupG.of1 iF iN sub_refl ?_ | with_reducible refine item0 TupG.of2 iF iN sub_refl ?_ | with_reducible refine item1 TupG.of2 iF iN sub_refl ?_))
  k_with "eval Name" => (k_here; (with_reducible show wpAny _ _ (eval (Expr.Name (Str.ofString "MOST_PART") _) _) _ _ _); k_dflt (refine' name_K ?k1 ?k2 ?k3 nsMP ?_ ?k4 ?k5 ?k6; (case k1 => k_asm); (case k2 => k_asm); (case k3 => k_asm); (case k4 => rfl); (case k5 => rfl); (case k6 => decide)))
  k_with "exec Raise some none" => (k_here; k_dflt (refine' raise_refusal ?k1 ?k2 ?k3 ?k4 ?k5 ?k6 ?k7 ?k8 ?k9 ?k0 ?_; (case k1 => k_asm); (case k2 => k_asm); (case k3 => k_asm); (case k4 => k_asm); (case k5 => k_asm); (case k6 => rfl); (case k7 => ktr_room); (case k8 => ktr_units); (case k9 => first | rfl | assumption); (case k0 => rfl); k_whole); intro e' dx' t' h' tk' u' u'' F' N' hne')
  k_with "leaving ref" => (k_here; k_dflt (refine' leaveRaiseN ?k1 ?k2 ?k3 ?c1 ?c2 ?c3 ?c4 ?k4 ?k5 ?_ ?k6; (case k1 => k_asm); (case k2 => k_asm); (case k3 => assumption); (case c1 => rfl); (case c2 => rfl); (case c3 => rfl); (case c4 => rfl); (case k4 => (intro _ h9; cases h9)); (case k5 => assumption); (case k6 => rfl); k_whole); intro h' R' U')
  k_with "leaving ref" => (k_here; (rename FliesD _ _ _ _ _ _ _ _ _ => rF); k_dflt (refine' leaveOnD ?k1 ?k2 rF ?k4 ?k5 ?_; (case k1 => k_asm); (case k2 => assumption); (case k4 => (intro _ h9; cases h9)); (case k5 => assumption); k_whole); clear rF; intro h' R' U')
  k_with "call ref" => (k_here; k_dflt (refine' least_spec ?p0 ?p1 ?k1 ?k2 ?k3 ?k4 ?k5 ?k6 ?k7 ?k8 (fun p' q' hmk' D' t1' t2' n' h' tk' F' N' l' => ?_); (case k1 => k_asm); (case k2 => k_asm); (case k3 => k_asm); (case k4 => k_asm); (case k5 => k_asm); (case k6 => ktr_room); (case k7 => ktr_units); (case k8 => first | rfl | assumption); (case p0 => first | assumption | omega); (case p1 => first | assumption | omega)); skip)
  k_with "binaryOp Mult int int" => (k_here; refine mul_int ?_ (by first | assumption | exact mulOk_mp2 (by assumption) (by assumption) (by assumption) (by assumption) (by omega) | exact IntMulOk.of_right (PySem.intBits_le_64 (by omega) (by omega)) | exact IntMulOk.of_left (PySem.intBits_le_64 (by omega) (by omega)) | exact IntMulOk.of_right (by decide)))
  trivial
local macro_rules | `(tactic| walk_at "pyIter ref") => `(tactic| (k_here; refine Halt.out ?_))
theorem mp_eq : (10 : Int) ^ Int.toNat 5000 = MP := by
  unfold MP
  rfl
theorem max_over {p q M : Int} : M < (if q > (if p < 0 then -p else p) then q else (if p < 0 then -p else p)) ↔ ¬ ((p.natAbs : Int) ≤ M ∧ q ≤ M) := by
  by_cases h : p < 0
  · simp only [h, if_true]
    split <;> omega
  · simp only [h, if_false]
    split <;> omega
theorem mulOk_mp2 {p a b : Int} {i : Nat} (hp : (p.natAbs : Int) ≤ MP) (ha : (a.natAbs : Int) ≤ MP) (hb : 0 < b) (hb7 : b ≤ 7) (hi : i < 6) : IntMulOk p (a - (0 + (i : Int)) * b) := by
  refine IntMulOk.of_bits (Nat.le_trans (bits_mp hp) (by decide)) (Nat.le_trans (m := 20002) ?_ (by decide))
  refine intBits_le_iff.mpr ?_
  have h1 := mp_bits
  have l1 : (i : Int) * b ≤ 6 * b := Int.mul_le_mul_of_nonneg_right (by omega) (by omega)
  have l2 : 0 ≤ (i : Int) * b := Int.mul_nonneg (by omega) (by omega)
  rw [Int.zero_add]
  have h2 : (((a - (i : Int) * b).natAbs : Nat) : Int) < ((2 ^ 20002 : Nat) : Int) := by
    have e : ((2 ^ 20002 : Nat) : Int) = 4 * (2 : Int) ^ 20000 := by
      rw [Int.natCast_pow]
      decide +kernel
    have h5 : (1000 : Int) ≤ (2 : Int) ^ 20000 := by decide +kernel
    rw [e]
    generalize (2 : Int) ^ 20000 = z at *
    omega
  exact Int.ofNat_lt.mp h2
/-- the law's own product -/
def lawC (a b : Int) : Nat → Option (Int × Int)
  | 0 => some (1, 1)
  | k + 1 => match lawC a b k with
    | none => none
    | some (p, q) => mk (p * (a - (k : Int) * b)) (q * b * ((k : Int) + 1))
theorem lawC_none {a b : Int} : ∀ {n i : Nat}, i ≤ n → lawC a b i = none → lawC a b n = none
  | 0, i, h, e => by
    have : i = 0 := by omega
    rw [← this]; exact e
  | n + 1, i, h, e => by
    by_cases hi : i = n + 1
    · rw [← hi]; exact e
    · have := lawC_none (n := n) (by omega) e
      show (match lawC a b n with | none => none | some (p, q) => mk (p * (a - (n : Int) * b)) (q * b * ((n : Int) + 1))) = none
      rw [this]
theorem lawC_next {a b p q : Int} {i : Nat} (h : lawC a b i = some (p, q)) : lawC a b (i + 1) = mk (p * (a - (0 + (i : Int)) * b)) (q * b * (0 + (i : Int) + 1)) := by
  rw [Int.zero_add]
  show (match lawC a b i with | none => none | some (p, q) => mk (p * (a - (i : Int) * b)) (q * b * ((i : Int) + 1))) = _
  rw [h]
theorem lawC_facts {a b : Int} (hb : 0 < b) (hb7 : b ≤ 7) : ∀ {j : Nat} {p q : Int}, lawC a b j = some (p, q) → (p.natAbs : Int) ≤ MP ∧ 0 < q ∧ q ≤ qb j
  | 0, p, q, h => by
    cases h
    exact ⟨mp_pos, by decide, by decide⟩
  | j + 1, p, q, h => by
    cases e : lawC a b j with
    | none => rw [lawC_none (Nat.le_succ j) e] at h; cases h
    | some r =>
      obtain ⟨p', q'⟩ := r
      obtain ⟨h1, h2, h3⟩ := lawC_facts hb hb7 e
      rw [lawC_next e, Int.zero_add] at h
      have p0 : 0 < q' * b := Int.mul_pos h2 hb
      obtain ⟨k1, k2, k3⟩ := mk_facts h (Int.mul_pos p0 (by omega))
      refine ⟨k1, k2, Int.le_trans k3 ?_⟩
      have l1 : q' * b ≤ q' * 7 := Int.mul_le_mul_of_nonneg_left (by omega) (Int.le_of_lt h2)
      have l2 : q' * 7 ≤ qb j * 7 := Int.mul_le_mul_of_nonneg_right h3 (by decide)
      exact Int.mul_le_mul_of_nonneg_right (by omega) (by omega)
theorem law_small {a b p q : Int} {i : Nat} (hb : 0 < b) (hb7 : b ≤ 7) (hi : i < 6) (h : lawC a b i = some (p, q)) : 0 < q * b * (0 + (i : Int) + 1) ∧ q * b * (0 + (i : Int) + 1) < 1073741824 ∧ 0 < q * b ∧ q * b < 1073741824 ∧ 0 ≤ (0 + (i : Int)) * b ∧ (0 + (i : Int)) * b < 100 := by
  obtain ⟨_, h2, h3⟩ := lawC_facts hb hb7 h
  have l0 : 0 < q * b := Int.mul_pos h2 hb
  have l1 : q * b ≤ q * 7 := Int.mul_le_mul_of_nonneg_left (by omega) (Int.le_of_lt h2)
  have l2 : q * 7 ≤ qb i * 7 := Int.mul_le_mul_of_nonneg_right h3 (by decide)
  have l3 : q * b * ((i : Int) + 1) ≤ qb i * 7 * ((i : Int) + 1) := Int.mul_le_mul_of_nonneg_right (by omega) (by omega)
  have l4 := qb_small hi
  have l5 : q * b * 1 ≤ q * b * ((i : Int) + 1) := Int.mul_le_mul_of_nonneg_left (by omega) (Int.le_of_lt l0)
  have l6 : 0 ≤ (i : Int) * b := Int.mul_nonneg (by omega) (by omega)
  have l7 : (i : Int) * b ≤ 6 * b := Int.mul_le_mul_of_nonneg_right (by omega) (by omega)
  have l8 : 0 < q * b * ((i : Int) + 1) := Int.mul_pos l0 (by omega)
  rw [Int.zero_add]
  omega
theorem redc_mk {n d u v : Int} (e : redc n d = (u, v)) (h1 : (u.natAbs : Int) ≤ MP) (h2 : v ≤ MP) : mk n d = some (u, v) := by
  unfold mk
  rw [e, if_pos ⟨h1, h2⟩]
theorem redc_none {n d u v : Int} (e : redc n d = (u, v)) (h : ¬ ((u.natAbs : Int) ≤ MP ∧ v ≤ MP)) : mk n d = none := by
  unfold mk
  rw [e, if_neg h]
section
variable {w : World} {dp un : Nat} {gd : Option (List Code)} {base h₀ : Heap} {outer : List Env} {cn : Str} {cs : Scope} {L a : Addr} {ccd : Value} {s : Shared} {m mg mb : Str → Option Value} {mean : ExcName → Option Value} {news : List (Addr × Obj)} {E : Value → Shared → Prop} {Q : Value → Shared → Prop}

theorem product_spec {a' : Addr} {D : Addr} {a b k : Int} {t1 t2 tk0 : Tok} (hx : TupG h₀ news D a b t1 t2) (hb : 0 < b) (hb7 : b ≤ 7) (ha : (a.natAbs : Int) ≤ MP) (hk0 : 0 ≤ k) (hk6 : k ≤ 6) (B : Below (A0 dp un gd outer) base outer h₀) (F : Fr h₀ L s.heap m) (X : (hd.heap_39 w.params).In h₀) (N : News h₀ L s.heap news) (T : TopP mg mb mean h₀)
    (hroom : dp + 20 < recursionLimit) (hu : un + 120 < cLine) (hk : cs.kind = .function)
    (hret : ∀ u v, lawC a b k.toNat = some (u, v) → RetG w h₀ L m news s Q u v)
    (htxt : lawC a b k.toNat = none → ∀ t h' tk', Fr h₀ L h' m → News h₀ L h' news → Q (.str msgT t) { s with heap := h', toks := tk' }) :
    wpAny (model PySem.Challenge.rw_pq1399_01.row.prog w) ((A0 dp un gd outer).deeper (envOf cn cs L a' ccd)) (call (.ref 204) [.ref D, .int k tk0]) Q E s := by
  k_dflt (refine' enterK [(Str.ofString "x", .ref D), (Str.ofString "taken_now", .int k tk0)] B F X N T ?kA ?kF ?kK ?k6 ?k7 ?k8 ?k9 ?kB ?_ ?c2 ?c3 ?c4 ?c5; (case kA => exact rfl); (case kF => exact rfl); (case kK => assumption); (case k6 => k_is); (case k7 => k_is); (case k8 => ktr_room); (case k9 => exact BindsTo.of_eq rfl); (case c5 => decide); (case kB => exact locs rfl); (case c2 => exact rfl); (case c3 => exact rfl); (case c4 => exact rfl))
  intro g' L' h' FG' F' N' B' X' T'
  simp only [List.reverse_cons, List.reverse_nil, List.nil_append, List.cons_append, kstB] at F'
  have hx' := hx.up FG'.keep sub_refl
  k_steps
  refine Halt.inn ?_
  rename Fr _ L' _ _ => F₀
  rename News _ L' _ _ => N₀
  refine range_loop0 (fun i m₁ nx => (∀ z ∈ news, z ∈ nx) ∧ ∃ p q Df u1 u2, lawC a b i = some (p, q) ∧ m₁ (Str.ofString "found") = some (.ref Df) ∧ m₁ (Str.ofString "x") = some (.ref D) ∧ TupK w nx Df p q u1 u2) (by assumption) F₀ N₀ (by omega) rfl ⟨fun z hz => .tail _ hz, 1, 1, _, _, _, rfl, rfl, rfl, TupK.of⟩ ?_ ?_
  · intro i t m₁ nx h tk own hi hj hoff F₁ N₁
    obtain ⟨hsub, p, q, Df, u1, u2, hp, hf, hxm, hT⟩ := hj
    have F₁ := fr_kst [(Str.ofString "lap", .int (0 + (i : Nat)) t), (Str.ofString "found", .ref Df), (Str.ofString "x", .ref D)] F₁ (by intro z hz; simp only [List.mem_cons, List.not_mem_nil, or_false] at hz; rcases hz with rfl | rfl | rfl <;> first | rfl | exact hf | exact hxm)
    simp only [kstB] at F₁
    obtain ⟨hs1, hs2, hs3, hs4, hs5, hs6⟩ := law_small hb hb7 (by omega) hp
    obtain ⟨hpM, hq0, hqb⟩ := lawC_facts hb hb7 hp
    have hmul : IntMulOk p (a - (0 + (i : Int)) * b) := mulOk_mp2 hpM ha hb hb7 (by omega)
    have hT' := hT.to X'
    have hx'' := hx'.up (fun _ _ e => e) hsub
    k_steps
    · dsimp only [TurnEnd]
      rename ((_ : Int) < _) => h9
      rw [mp_eq, max_over] at h9
      k_steps
      exact htxt (lawC_none (i := i + 1) (by omega) ((lawC_next hp).trans (redc_none (by assumption) h9))) _ _ _ (by assumption) (cb_drop (by assumption) (fun z hz => by have h8 := hsub z hz; simp only [List.mem_cons, List.mem_append, h8, or_true]))
    · rename (¬ (_ : Int) < _) => h9
      rw [mp_eq, max_over, Classical.not_not] at h9
      exact turn_end (by assumption) (by assumption) (.head _) (fun z hz => .tail _ hz) (by have l9 : ∀ y ∈ _, Prod.fst y < _ := (by assumption); exact fun z hz => l9 z (List.mem_append_left _ hz)) hoff ⟨fun z hz => .tail _ (hsub z hz), _, _, _, _, _, (lawC_next hp).trans (redc_mk (by assumption) h9.1 h9.2), rfl, rfl, TupK.of⟩
  · intro m₁ nx h tk hj F₁ N₁
    obtain ⟨hsub, p, q, Df, u1, u2, hp, hf, hxm, hT⟩ := hj
    have F₁ := fr_kst [(Str.ofString "found", .ref Df)] F₁ (by intro z hz; simp only [List.mem_cons, List.not_mem_nil, or_false] at hz; rcases hz with rfl; exact hf)
    simp only [kstB] at F₁
    k_steps
    exact hret _ _ hp _ _ _ _ _ _ (by assumption) (by assumption) hsub hT
end
end
section
theorem rg25 : True := by
  k_with_none
  trivial
/-! the plain law -/
theorem redc_eq {n d : Int} (hd : 0 < d) : ∃ g : Int, 0 < g ∧ n = (redc n d).1 * g ∧ d = (redc n d).2 * g := by
  refine ⟨((Int.gcd n d : Nat) : Int), ?_, ?_, ?_⟩
  · have := Int.gcd_pos_of_ne_zero_right n (Int.ne_of_gt hd)
    omega
  · show n = n.fdiv _ * _
    rw [Int.fdiv_eq_ediv_of_nonneg _ (Int.natCast_nonneg _), Int.ediv_mul_cancel (Int.gcd_dvd_left _ _)]
  · show d = d.fdiv _ * _
    rw [Int.fdiv_eq_ediv_of_nonneg _ (Int.natCast_nonneg _), Int.ediv_mul_cancel (Int.gcd_dvd_right _ _)]
theorem redc_pos {n d : Int} (hd : 0 < d) : 0 < (redc n d).2 := by
  obtain ⟨g, hg, _, h2⟩ := redc_eq (n := n) hd
  exact Int.pos_of_mul_pos_left (h2 ▸ hd) hg
theorem redc_scale {n d c : Int} (hc : 0 < c) : redc (n * c) (d * c) = redc n d := by
  unfold redc
  have e : ((Int.gcd (n * c) (d * c) : Nat) : Int) = ((Int.gcd n d : Nat) : Int) * c := by
    rw [Int.gcd_mul_right, Int.natCast_mul, Int.natAbs_of_nonneg (Int.le_of_lt hc)]
  have h0 : (0 : Int) ≤ ((Int.gcd n d : Nat) : Int) * c := Int.mul_nonneg (Int.natCast_nonneg _) (Int.le_of_lt hc)
  rw [e]
  simp only [Int.fdiv_eq_ediv_of_nonneg _ h0, Int.fdiv_eq_ediv_of_nonneg _ (Int.natCast_nonneg _), Int.mul_ediv_mul_of_pos_left _ _ hc]
theorem redc_congr {n d n' d' : Int} (hd : 0 < d) (hd' : 0 < d') (e : n * d' = n' * d) : redc n d = redc n' d' := by
  rw [← redc_scale (n := n) (d := d) hd', ← redc_scale (n := n') (d := d') hd, e, Int.mul_comm d d']
theorem mk_congr {n d n' d' : Int} (hd : 0 < d) (hd' : 0 < d') (e : n * d' = n' * d) : mk n d = mk n' d' := by
  unfold mk
  rw [redc_congr hd hd' e]
theorem mk_val {n d p q : Int} (hd : 0 < d) (h : mk n d = some (p, q)) : p * d = n * q ∧ 0 < q ∧ p.natAbs ≤ n.natAbs := by
  unfold mk at h
  split at h
  · have e := Option.some.inj h
    obtain ⟨g, hg, h1, h2⟩ := redc_eq (n := n) hd
    have h3 := redc_pos (n := n) hd
    rw [e] at h1 h2 h3
    refine ⟨?_, h3, ?_⟩
    · dsimp only at h1 h2
      calc p * d = p * (q * g) := by rw [← h2]
        _ = (p * g) * q := by rw [Int.mul_comm q g, Int.mul_assoc]
        _ = n * q := by rw [← h1]
    · dsimp only at h1
      rw [h1, Int.natAbs_mul]
      exact Nat.le_mul_of_pos_right _ (by omega)
  · cases h
theorem mk_fits {n d : Int} (hd : 0 < d) (h1 : (n.natAbs : Int) ≤ MP) (h2 : d ≤ MP) : ∃ p q, mk n d = some (p, q) := by
  obtain ⟨g, hg, e1, e2⟩ := redc_eq (n := n) hd
  have h3 := redc_pos (n := n) hd
  refine ⟨(redc n d).1, (redc n d).2, ?_⟩
  unfold mk
  refine if_pos ⟨?_, ?_⟩
  · have : (redc n d).1.natAbs ≤ n.natAbs := by
      conv => rhs; rw [e1, Int.natAbs_mul]
      exact Nat.le_mul_of_pos_right _ (by omega)
    omega
  · have : (redc n d).2 * 1 ≤ (redc n d).2 * g := Int.mul_le_mul_of_nonneg_left (by omega) (Int.le_of_lt h3)
    omega
theorem mk_over {n d : Int} (hd : 0 < d) (h : MP * d < n) : mk n d = none := by
  obtain ⟨g, hg, e1, e2⟩ := redc_eq (n := n) hd
  have h3 := redc_pos (n := n) hd
  have hM := mp_pos
  refine if_neg fun hb => ?_
  have h5 : MP * (redc n d).2 * g < (redc n d).1 * g := by
    calc MP * (redc n d).2 * g = MP * d := by rw [Int.mul_assoc, ← e2]
      _ < n := h
      _ = (redc n d).1 * g := e1
  have h6 : MP * (redc n d).2 < (redc n d).1 := Int.lt_of_mul_lt_mul_right h5 (Int.le_of_lt hg)
  have h7 : MP * 1 ≤ MP * (redc n d).2 := Int.mul_le_mul_of_nonneg_left (by omega) (by omega)
  have := hb.1
  omega

/-- a whole top: a step of choose's loop is a step of the law's product, where its own parts fit -/
theorem step_law {a p q : Int} {j : Nat} (hq : 0 < q) (hqM : q ≤ MP) (ha : ((a - (j : Int)).natAbs : Int) ≤ MP) (hp : ((p * (a - (j : Int))).natAbs : Int) ≤ MP) :
    stepC a 1 p q j = mk (p * (a - (j : Int))) (q * ((j : Int) + 1)) := by
  have e1 : mk (a * 1 + (0 - (j : Int)) * 1) (1 * 1) = some (a - (j : Int), 1) := by
    rw [show a * 1 + (0 - (j : Int)) * 1 = a - (j : Int) from by omega, Int.one_mul]
    exact mk_one ha
  unfold stepC
  rw [e1]
  dsimp only
  rw [Int.mul_one q]
  obtain ⟨m1, m2, h2⟩ := mk_fits hq hp hqM
  rw [h2]
  dsimp only
  obtain ⟨v1, v2, _⟩ := mk_val hq h2
  refine mk_congr (Int.mul_pos v2 (by omega)) (Int.mul_pos hq (by omega)) ?_
  calc m1 * 1 * (q * ((j : Int) + 1)) = m1 * q * ((j : Int) + 1) := by rw [Int.mul_one, Int.mul_assoc]
    _ = p * (a - (j : Int)) * m2 * ((j : Int) + 1) := by rw [v1]
    _ = p * (a - (j : Int)) * (m2 * ((j : Int) + 1)) := by rw [Int.mul_assoc]
theorem law_step {a p q : Int} {j : Nat} (h : lawC a 1 j = some (p, q)) : lawC a 1 (j + 1) = mk (p * (a - (j : Int))) (q * ((j : Int) + 1)) := by
  rw [lawC_next h, Int.zero_add, Int.mul_one, Int.mul_one]
theorem qb_mp {j : Nat} (h : j ≤ 6) : qb j ≤ MP := by
  have h1 := mp_40
  have : j = 0 ∨ j = 1 ∨ j = 2 ∨ j = 3 ∨ j = 4 ∨ j = 5 ∨ j = 6 := by omega
  have h2 : qb j ≤ 10 ^ 40 := by rcases this with rfl | rfl | rfl | rfl | rfl | rfl | rfl <;> decide
  omega
theorem law_bound {a : Int} {A : Nat} : ∀ {j : Nat} {p q : Int}, (∀ i : Nat, i < j → (a - (i : Int)).natAbs ≤ A) → lawC a 1 j = some (p, q) → p.natAbs ≤ A ^ j
  | 0, p, q, _, h => by cases h; exact Nat.le_refl _
  | j + 1, p, q, ha, h => by
    cases e : lawC a 1 j with
    | none => rw [lawC_none (Nat.le_succ j) e] at h; cases h
    | some r =>
      obtain ⟨p', q'⟩ := r
      have hb := law_bound (fun i hi => ha i (by omega)) e
      rw [law_step e] at h
      have hq := (lawC_facts (by decide) (by decide) e).2.1
      have h1 := (mk_val (Int.mul_pos hq (by omega)) h).2.2
      rw [Int.natAbs_mul] at h1
      exact Nat.le_trans h1 (Nat.mul_le_mul hb (ha j (by omega)))
theorem prod_law {a : Int} {A n : Nat} (hA : 1 ≤ A) (ha : ∀ i : Nat, i < n → (a - (i : Int)).natAbs ≤ A) (hM : ((A ^ n : Nat) : Int) ≤ MP) (hA' : (A : Int) ≤ MP) (hn : n ≤ 6) : ∀ {j : Nat}, j ≤ n → prodC a 1 j = lawC a 1 j
  | 0, _ => rfl
  | j + 1, hj => by
    have ih := prod_law hA ha hM hA' hn (j := j) (by omega)
    cases e : lawC a 1 j with
    | none => rw [lawC_none (Nat.le_succ j) e, prodC_none (Nat.le_succ j) (ih.trans e)]
    | some r =>
      obtain ⟨p, q⟩ := r
      rw [prodC_next (ih.trans e), law_step e]
      obtain ⟨_, hq, hqb⟩ := lawC_facts (by decide) (by decide) e
      have h1 := qb_mp (j := j) (by omega)
      have h2 := law_bound (fun i hi => ha i (by omega)) e
      have h3 := ha j (by omega)
      have h4 : (p * (a - (j : Int))).natAbs ≤ A ^ n := by
        rw [Int.natAbs_mul]
        exact Nat.le_trans (Nat.mul_le_mul h2 h3) (by rw [← Nat.pow_succ]; exact Nat.pow_le_pow_right hA hj)
      exact step_law hq (by omega) (by omega) (by omega)

def fall (a : Int) : Nat → Int
  | 0 => 1
  | j + 1 => fall a j * (a - (j : Int))
theorem facC_pos : ∀ j, 0 < facC j
  | 0 => by decide
  | j + 1 => Int.mul_pos (facC_pos j) (by omega)
theorem law_val {a : Int} : ∀ {j : Nat} {p q : Int}, lawC a 1 j = some (p, q) → p * facC j = q * fall a j
  | 0, p, q, h => by cases h; rfl
  | j + 1, p, q, h => by
    cases e : lawC a 1 j with
    | none => rw [lawC_none (Nat.le_succ j) e] at h; cases h
    | some r =>
      obtain ⟨p', q'⟩ := r
      have ih := law_val e
      rw [law_step e] at h
      have hq := (lawC_facts (by decide) (by decide) e).2.1
      have h1 := (mk_val (Int.mul_pos hq (by omega)) h).1
      show p * (facC j * ((j : Int) + 1)) = q * (fall a j * (a - (j : Int)))
      refine Int.eq_of_mul_eq_mul_left (Int.ne_of_gt hq) ?_
      calc q' * (p * (facC j * ((j : Int) + 1))) = p * (q' * ((j : Int) + 1)) * facC j := by ac_rfl
        _ = p' * (a - (j : Int)) * q * facC j := by rw [h1]
        _ = (p' * facC j) * ((a - (j : Int)) * q) := by ac_rfl
        _ = q' * fall a j * ((a - (j : Int)) * q) := by rw [ih]
        _ = q' * (q * (fall a j * (a - (j : Int)))) := by ac_rfl
theorem law_over {a p q : Int} {j : Nat} (h : lawC a 1 j = some (p, q)) (ha : ((a - (j : Int)).natAbs : Int) ≤ MP) (hb : MP * facC (j + 1) < fall a (j + 1)) : stepC a 1 p q j = none ∧ lawC a 1 (j + 1) = none := by
  have hv := law_val h
  have hq := (lawC_facts (by decide) (by decide) h).2.1
  have hF := facC_pos j
  have hM := mp_pos
  have hb' : MP * (facC j * ((j : Int) + 1)) < fall a j * (a - (j : Int)) := hb
  have k1 : MP * (q * ((j : Int) + 1)) * facC j < p * (a - (j : Int)) * facC j := by
    calc MP * (q * ((j : Int) + 1)) * facC j = q * (MP * (facC j * ((j : Int) + 1))) := by ac_rfl
      _ < q * (fall a j * (a - (j : Int))) := Int.mul_lt_mul_of_pos_left hb' hq
      _ = (q * fall a j) * (a - (j : Int)) := by ac_rfl
      _ = (p * facC j) * (a - (j : Int)) := by rw [hv]
      _ = p * (a - (j : Int)) * facC j := by ac_rfl
  have k2 : MP * (q * ((j : Int) + 1)) < p * (a - (j : Int)) := Int.lt_of_mul_lt_mul_right k1 (Int.le_of_lt hF)
  have k3 : MP * q < p * (a - (j : Int)) := by
    have l1 : q * 1 ≤ q * ((j : Int) + 1) := Int.mul_le_mul_of_nonneg_left (by omega) (Int.le_of_lt hq)
    have l2 : MP * q ≤ MP * (q * ((j : Int) + 1)) := Int.mul_le_mul_of_nonneg_left (by omega) (by omega)
    omega
  constructor
  · have e1 : mk (a * 1 + (0 - (j : Int)) * 1) (1 * 1) = some (a - (j : Int), 1) := by
      rw [show a * 1 + (0 - (j : Int)) * 1 = a - (j : Int) from by omega, Int.one_mul]
      exact mk_one ha
    unfold stepC
    rw [e1]
    dsimp only
    rw [Int.mul_one q, mk_over hq k3]
  · rw [law_step h]
    exact mk_over (Int.mul_pos hq (by omega)) k2
theorem both_over {a : Int} {j n : Nat} (he : prodC a 1 j = lawC a 1 j) (hjn : j + 1 ≤ n) (ha : ((a - (j : Int)).natAbs : Int) ≤ MP) (hb : MP * facC (j + 1) < fall a (j + 1)) : prodC a 1 n = none ∧ lawC a 1 n = none := by
  cases e : lawC a 1 j with
  | none => exact ⟨prodC_none (by omega) (he.trans e), lawC_none (by omega) e⟩
  | some r =>
    obtain ⟨p, q⟩ := r
    obtain ⟨h1, h2⟩ := law_over e ha hb
    exact ⟨prodC_none hjn ((prodC_next (he.trans e)).trans h1), lawC_none hjn h2⟩

theorem take_fold {a k : Int} (h0 : 0 ≤ k) (h1 : 2 * k < a) : takeC a 1 (a - k) = k ∧ takeC a 1 k = k := by
  unfold takeC
  constructor
  · by_cases h : a < 2 * (a - k)
    · rw [if_pos ⟨rfl, by omega, h⟩]
      omega
    · omega
  · rw [if_neg (by omega)]
theorem choose_fold {a k : Int} (h0 : 0 ≤ k) (h1 : 2 * k < a) : chooseC a 1 (a - k) = prodC a 1 k.toNat ∧ chooseC a 1 k = prodC a 1 k.toNat := by
  obtain ⟨e1, e2⟩ := take_fold h0 h1
  unfold chooseC
  rw [e1, e2, if_neg (by omega)]
  exact ⟨rfl, rfl⟩
theorem take_small {a b k : Int} (h0 : 0 ≤ k) (h6 : k ≤ 6) : takeC a b k ≤ 6 := by
  unfold takeC
  split <;> omega

/-- way 1 -/
theorem way_one {a k : Int} (ha0 : 4000 ≤ a) (ha1 : a ≤ 9000) (h0 : 0 ≤ k) (h4 : k ≤ 4) : chooseC a 1 (a - k) = lawC a 1 k.toNat := by
  rw [(choose_fold h0 (by omega)).1]
  have hM := mp_40
  have h9 : ((9000 ^ 4 : Nat) : Int) ≤ 10 ^ 40 := by decide
  have h8 : ((9000 ^ k.toNat : Nat) : Int) ≤ ((9000 ^ 4 : Nat) : Int) := Int.ofNat_le.mpr (Nat.pow_le_pow_right (by decide) (by omega))
  exact prod_law (A := 9000) (n := k.toNat) (by decide) (fun i hi => by omega) (Int.le_trans h8 (Int.le_trans h9 hM)) (by omega) (by omega) (Nat.le_refl _)
end
section
theorem rg26 : True := by
  k_with_none
  trivial
theorem mpN : MP = ((10 ^ 5000 : Nat) : Int) := by
  rw [Int.natCast_pow]
  unfold MP
  rfl
theorem cast_mp {n : Nat} (h : n ≤ 10 ^ 5000) : (n : Int) ≤ MP := by
  rw [mpN]
  exact Int.ofNat_le.mpr h
theorem mp_cast {n : Nat} (h : 10 ^ 5000 < n) : MP < (n : Int) := by
  rw [mpN]
  exact Int.ofNat_lt.mpr h
theorem big1 : 10 ^ 2999 + 15 ≤ 10 ^ 5000 := by decide +kernel
theorem big2 : (10 ^ 2399 + 15) ^ 2 ≤ 10 ^ 5000 := by decide +kernel
theorem big3 : (10 ^ 1666 + 15) ^ 3 ≤ 10 ^ 5000 := by decide +kernel
theorem big4 : 10 ^ 5000 * 6 < 10 ^ 1667 * 10 ^ 1667 * 10 ^ 1667 := by decide +kernel
theorem big5 : 10 ^ 5000 * 2 < 10 ^ 2600 * 10 ^ 2600 := by decide +kernel
theorem pow_up {i j : Nat} (h : i ≤ j) : 10 ^ i ≤ 10 ^ j := Nat.pow_le_pow_right (by decide) h

theorem fall_two {a : Int} {Y : Nat} (h : (Y : Int) ≤ a - 1) : ((Y * Y : Nat) : Int) ≤ fall a 2 := by
  show _ ≤ 1 * (a - ((0 : Nat) : Int)) * (a - ((1 : Nat) : Int))
  rw [Int.one_mul, Int.natCast_mul]
  refine Int.mul_le_mul (by omega) (by omega) (by omega) (by omega)
theorem fall_three {a : Int} {Y : Nat} (h : (Y : Int) ≤ a - 2) : ((Y * Y * Y : Nat) : Int) ≤ fall a 3 := by
  have h2 := fall_two (a := a) (Y := Y) (by omega)
  show _ ≤ fall a 2 * (a - ((2 : Nat) : Int))
  rw [Int.natCast_mul (Y * Y)]
  have h3 : (0 : Int) ≤ ((Y * Y : Nat) : Int) := Int.natCast_nonneg _
  exact Int.mul_le_mul h2 (by omega) (by omega) (by omega)
theorem over_two {a : Int} (h : ((10 ^ 2600 : Nat) : Int) ≤ a - 1) : MP * facC 2 < fall a 2 := by
  have h1 := fall_two h
  have h2 : MP * facC 2 < ((10 ^ 2600 * 10 ^ 2600 : Nat) : Int) := by
    rw [mpN, show facC 2 = ((2 : Nat) : Int) from by decide, ← Int.natCast_mul]
    exact Int.ofNat_lt.mpr big5
  exact Int.lt_of_lt_of_le h2 h1
theorem over_three {a : Int} (h : ((10 ^ 1667 : Nat) : Int) ≤ a - 2) : MP * facC 3 < fall a 3 := by
  have h1 := fall_three h
  have h2 : MP * facC 3 < ((10 ^ 1667 * 10 ^ 1667 * 10 ^ 1667 : Nat) : Int) := by
    rw [mpN, show facC 3 = ((6 : Nat) : Int) from by decide, ← Int.natCast_mul]
    exact Int.ofNat_lt.mpr big4
  exact Int.lt_of_lt_of_le h2 h1

section
variable {a : Int} {X : Nat}
theorem fit_one (hX : X ≤ 10 ^ 2999) (h7 : (X : Int) + 7 ≤ a) (h15 : a ≤ (X : Int) + 15) : (a.natAbs : Int) ≤ MP ∧ ((a - ((1 : Nat) : Int)).natAbs : Int) ≤ MP ∧ ((a - ((2 : Nat) : Int)).natAbs : Int) ≤ MP := by
  have h := cast_mp big1
  generalize 10 ^ 2999 = Z at *
  generalize MP = M at *
  omega
theorem eq_one (hX : X ≤ 10 ^ 2999) (h7 : (X : Int) + 7 ≤ a) (h15 : a ≤ (X : Int) + 15) : ∀ {j : Nat}, j ≤ 1 → prodC a 1 j = lawC a 1 j := by
  refine prod_law (A := 10 ^ 2999 + 15) (n := 1) (Nat.le_add_left _ _) (fun i hi => ?_) ?_ (cast_mp big1) (by decide)
  · generalize 10 ^ 2999 = Z at *
    omega
  · rw [Nat.pow_one]
    exact cast_mp big1
theorem eq_two (hX : X ≤ 10 ^ 2399) (h7 : (X : Int) + 7 ≤ a) (h15 : a ≤ (X : Int) + 15) : ∀ {j : Nat}, j ≤ 2 → prodC a 1 j = lawC a 1 j := by
  refine prod_law (A := 10 ^ 2399 + 15) (n := 2) (Nat.le_add_left _ _) (fun i hi => ?_) (cast_mp big2) (cast_mp (Nat.le_trans (Nat.add_le_add_right (pow_up (by decide)) _) big1)) (by decide)
  generalize 10 ^ 2399 = Z at *
  omega
theorem eq_three (hX : X ≤ 10 ^ 1666) (h7 : (X : Int) + 7 ≤ a) (h15 : a ≤ (X : Int) + 15) : ∀ {j : Nat}, j ≤ 3 → prodC a 1 j = lawC a 1 j := by
  refine prod_law (A := 10 ^ 1666 + 15) (n := 3) (Nat.le_add_left _ _) (fun i hi => ?_) (cast_mp big3) (cast_mp (Nat.le_trans (Nat.add_le_add_right (pow_up (by decide)) _) big1)) (by decide)
  generalize 10 ^ 1666 = Z at *
  omega
end
theorem low_of {a : Int} {X Y : Nat} (hX : Y ≤ X) (h7 : (X : Int) + 7 ≤ a) : (Y : Int) ≤ a - 1 ∧ (Y : Int) ≤ a - 2 := by omega

/-- way 2 -/
theorem way_two {a k : Int} {f : Nat} (hf : f ≤ 2399 ∨ (2600 ≤ f ∧ f ≤ 2999)) (h7 : ((10 ^ f : Nat) : Int) + 7 ≤ a) (h15 : a ≤ ((10 ^ f : Nat) : Int) + 15) (h0 : 0 ≤ k) (h3 : k ≤ 3) :
    (a.natAbs : Int) ≤ MP ∧ chooseC a 1 k = lawC a 1 k.toNat := by
  have hX : 10 ^ f ≤ 10 ^ 2999 := pow_up (by omega)
  have hf1 := fit_one hX h7 h15
  refine ⟨hf1.1, ?_⟩
  have hX1 : 1 ≤ 10 ^ f := Nat.pos_of_ne_zero (Nat.ne_of_gt (Nat.pow_pos (by decide)))
  rw [(choose_fold h0 (by omega)).2]
  have e1 := eq_one hX h7 h15 (j := 1) (Nat.le_refl _)
  by_cases hk1 : k ≤ 1
  · exact eq_one hX h7 h15 (by omega)
  by_cases hbig : 2600 ≤ f
  · have ho := over_two (low_of (pow_up hbig) h7).1
    obtain ⟨p1, p2⟩ := both_over (n := k.toNat) e1 (by omega) hf1.2.1 ho
    rw [p1, p2]
  have hX2 : 10 ^ f ≤ 10 ^ 2399 := pow_up (by omega)
  by_cases hk2 : k ≤ 2
  · exact eq_two hX2 h7 h15 (by omega)
  by_cases hmid : 1667 ≤ f
  · have ho := over_three (low_of (pow_up hmid) h7).2
    obtain ⟨p1, p2⟩ := both_over (n := k.toNat) (eq_two hX2 h7 h15 (j := 2) (Nat.le_refl _)) (by omega) hf1.2.2 ho
    rw [p1, p2]
  · exact eq_three (pow_up (by omega)) h7 h15 (by omega)

/-! way 3: small numbers, by reckoning -/
def mkS (n d : Int) : Option (Int × Int) := if ((redc n d).1.natAbs : Int) ≤ 10 ^ 40 ∧ (redc n d).2 ≤ 10 ^ 40 then some (redc n d) else none
theorem mkS_mk {n d : Int} {r : Int × Int} (h : mkS n d = some r) : mk n d = some r := by
  have := mp_40
  unfold mkS at h
  unfold mk
  split at h
  · rename_i hb
    rw [if_pos ⟨Int.le_trans hb.1 this, Int.le_trans hb.2 this⟩]
    exact h
  · cases h
def prodS (a b : Int) : Nat → Option (Int × Int)
  | 0 => some (1, 1)
  | k + 1 => match prodS a b k with
    | none => none
    | some (p, q) => match mkS (a * 1 + (0 - (k : Int)) * b) (b * 1) with
      | none => none
      | some (s1, s2) => match mkS (p * s1) (q * s2) with
        | none => none
        | some (m1, m2) => mkS (m1 * 1) (m2 * ((k : Int) + 1))
theorem prodS_C {a b : Int} : ∀ {n : Nat} {r : Int × Int}, prodS a b n = some r → prodC a b n = some r
  | 0, _, h => h
  | n + 1, r, h => by
    unfold prodS at h
    split at h
    · cases h
    · rename_i p q e
      rw [prodC_next (prodS_C e)]
      split at h
      · cases h
      · rename_i s1 s2 e1
        split at h
        · cases h
        · rename_i m1 m2 e2
          unfold stepC
          rw [mkS_mk e1]
          dsimp only
          rw [mkS_mk e2]
          exact mkS_mk h
def lawS (a b : Int) : Nat → Option (Int × Int)
  | 0 => some (1, 1)
  | k + 1 => match lawS a b k with
    | none => none
    | some (p, q) => mkS (p * (a - (k : Int) * b)) (q * b * ((k : Int) + 1))
theorem lawS_C {a b : Int} : ∀ {n : Nat} {r : Int × Int}, lawS a b n = some r → lawC a b n = some r
  | 0, _, h => h
  | n + 1, r, h => by
    unfold lawS at h
    split at h
    · cases h
    · rename_i p q e
      rw [lawC_next (lawS_C e), Int.zero_add]
      exact mkS_mk h
def chooseS (a b k : Int) : Option (Int × Int) := if b = 1 ∧ 0 ≤ a ∧ a < takeC a b k then some (0, 1) else prodS a b (takeC a b k).toNat
theorem chooseS_C {a b k : Int} {r : Int × Int} (h : chooseS a b k = some r) : chooseC a b k = some r := by
  unfold chooseS at h
  unfold chooseC
  split at h
  · rw [if_pos (by assumption)]
    exact h
  · rw [if_neg (by assumption)]
    exact prodS_C h
def check (a b : Int) (k : Nat) : Bool := decide (0 < b) && decide (b ≤ 7) && decide (a.natAbs ≤ 30) && (match chooseS a b k, lawS a b k with
  | some r, some r' => r == r' && (!(decide (b = 1) && decide ((k : Int) < a) && decide (0 < k)) || (match lawS (a - 1) 1 (k - 1), chooseS (a - 1) 1 k with
    | some u, some z => z == (r.1 - u.1, 1)
    | _, _ => false))
  | _, _ => false)
theorem checked : ∀ t : Fin 60, ∀ c : Fin 7, ∀ k : Fin 7, check (redc ((t.val : Int) - 30) (1 + (c.val : Int))).1 (redc ((t.val : Int) - 30) (1 + (c.val : Int))).2 k.val = true := by decide +kernel
theorem check_says {a b : Int} {k : Nat} (h : check a b k = true) : 0 < b ∧ b ≤ 7 ∧ a.natAbs ≤ 30 ∧ ∃ u v, chooseC a b k = some (u, v) ∧ lawC a b k = some (u, v) ∧
    (b = 1 → (k : Int) < a → 0 < k → ∃ u' v', lawC (a - 1) 1 (k - 1) = some (u', v') ∧ chooseC (a - 1) 1 k = some (u - u', 1)) := by
  unfold check at h
  simp only [Bool.and_eq_true, decide_eq_true_eq] at h
  obtain ⟨⟨⟨h1, h2⟩, h3⟩, h4⟩ := h
  refine ⟨h1, h2, h3, ?_⟩
  split at h4
  · rename_i r r' e1 e2
    simp only [Bool.and_eq_true, beq_iff_eq] at h4
    obtain ⟨rfl, h5⟩ := h4
    refine ⟨r.1, r.2, chooseS_C e1, lawS_C e2, fun hb hk h0 => ?_⟩
    simp only [hb, hk, h0, decide_true, Bool.and_self, Bool.not_true, Bool.false_or] at h5
    split at h5
    · rename_i u z e3 e4
      have e5 := beq_iff_eq.mp h5
      exact ⟨u.1, u.2, lawS_C e3, e5 ▸ chooseS_C e4⟩
    · cases h5
  · cases h4
/-- way 3 -/
theorem way_three {r1 r2 k a b : Int} (h1 : 0 ≤ r1) (h1' : r1 < 60) (h2 : 0 ≤ r2) (h2' : r2 < 7) (h3 : 0 ≤ k) (h3' : k < 7) (h : redc (r1 - 30) (1 + r2) = (a, b)) :
    0 < b ∧ b ≤ 7 ∧ a.natAbs ≤ 30 ∧ ∃ u v, chooseC a b k = some (u, v) ∧ lawC a b k.toNat = some (u, v) ∧
    (b = 1 → k < a → 0 < k → ∃ u' v', lawC (a - 1) 1 (k - 1).toNat = some (u', v') ∧ chooseC (a - 1) 1 k = some (u - u', 1)) := by
  have hc := checked ⟨r1.toNat, by omega⟩ ⟨r2.toNat, by omega⟩ ⟨k.toNat, by omega⟩
  dsimp only at hc
  rw [Int.toNat_of_nonneg h1, Int.toNat_of_nonneg h2, h] at hc
  obtain ⟨k1, k2, k3, u, v, k4, k5, k6⟩ := check_says hc
  rw [Int.toNat_of_nonneg h3] at k4
  refine ⟨k1, k2, k3, u, v, k4, k5, fun hb hk h0 => ?_⟩
  obtain ⟨u', v', k7, k8⟩ := k6 hb (by omega) (by omega)
  rw [Int.toNat_of_nonneg h3] at k8
  exact ⟨u', v', (show (k - 1).toNat = k.toNat - 1 from by omega) ▸ k7, k8⟩
end
section
theorem rg27 : True := by
  k_with_none
  trivial
local macro_rules | `(tactic| walk_at "pyIter ref") => `(tactic| (k_here; refine Halt.out ?_))

theorem rg28 : True := by
  k_with "exec For Name Call cons nil" => (k_here; (rename Fr _ _ _ _ => lF'); (with_unfolding_all refine' For_invVF (hE := ?kE) lF' ?k1 ?k2 ?_; (case kE => assumption); (case k1 => exact rfl); (case k2 => exact rfl); k_whole))
  trivial
section
variable {prog : Program} {w : World} {A : Around} {E : Value → Shared → Prop} {s : Shared} {h₀ : Heap} {L D : Addr} {m : Str → Option Value} {news rest : List (Addr × Obj)} {n : Nat}
theorem fit_u {us : List Value} {ms : List Int} {k : Nat} (hi : IntsAre us ms) (h : ms.length ≤ k) (hk : k ≤ 1000) : us.length ≤ sizeLine := by
  have := hi.length
  rw [PySem.sizeLine_eq]
  omega
theorem ints_snoc {us : List Value} {ms : List Int} {x : Int} {t : Tok} (hi : IntsAre us ms) : IntsAre (us ++ [.int x t]) (ms ++ [x]) := by
  induction hi with
  | nil => exact .cons _ _ .nil
  | cons k t r ih => exact .cons _ _ ih
theorem ints_app {us us' : List Value} {ms ms' : List Int} (h : IntsAre us ms) (h' : IntsAre us' ms') : IntsAre (us ++ us') (ms ++ ms') := by
  induction h with
  | nil => exact h'
  | cons k t r ih => exact .cons _ _ ih
theorem ints_rev {us : List Value} {ms : List Int} (h : IntsAre us ms) : IntsAre us.reverse ms.reverse := by
  induction h with
  | nil => exact .nil
  | cons k t r ih =>
    rw [List.reverse_cons, List.reverse_cons]
    exact ints_app ih (.cons _ _ .nil)
theorem ints_at {vs : List Value} {ns : List Int} (hi : IntsAre vs ns) : ∀ {i : Nat} {v : Value}, vs[i]? = some v → ∃ k t, v = .int k t := by
  induction hi with
  | nil => intro i v h; cases h
  | cons k t r ih =>
    intro i v h
    cases i with
    | zero => cases h; exact ⟨_, _, rfl⟩
    | succ i => exact ih h
theorem lt_all {d : Addr} {c : Addr × Obj} {l : List (Addr × Obj)} (h1 : c.1 < d) (h2 : AllLt d l) : ∀ p ∈ c :: l, p.1 < d := fun p hp => by
  rcases List.mem_cons.mp hp with rfl | hp
  · exact h1
  · exact kst_ltOf h2 p hp
theorem lt_all2 {C d : Addr} {o : Obj} {l : List (Addr × Obj)} (h : C < d ∧ AllLt d l) : ∀ p ∈ (C, o) :: l, p.1 < d := lt_all (c := (C, o)) h.1 h.2
theorem news_cut {h : Heap} {x y : Addr × Obj} (N : News h₀ L h (x :: y :: rest)) : News h₀ L h (x :: rest) := fun p hp => N p (by
  rcases List.mem_cons.mp hp with rfl | hp
  · exact .head _
  · exact .tail _ (.tail _ hp))
theorem news_in {h : Heap} {own : List (Addr × Obj)} {c : Addr × Obj} (N : News h₀ L h (own ++ (c :: rest))) : News h₀ L h (c :: (own ++ rest)) := fun p hp => N p (by
  rcases List.mem_cons.mp hp with rfl | hp
  · exact List.mem_append_right _ (.head _)
  · rcases List.mem_append.mp hp with hp | hp
    · exact List.mem_append_left _ hp
    · exact List.mem_append_right _ (.tail _ hp))
theorem news_out {h : Heap} {own : List (Addr × Obj)} {c : Addr × Obj} (N : News h₀ L h (c :: (own ++ rest))) : News h₀ L h (own ++ (c :: rest)) := fun p hp => N p (by
  rcases List.mem_append.mp hp with hp | hp
  · exact .tail _ (List.mem_append_left _ hp)
  · rcases List.mem_cons.mp hp with rfl | hp
    · exact .head _
    · exact .tail _ (List.mem_append_right _ hp))
theorem news_drop {h : Heap} {own : List (Addr × Obj)} {c : Addr × Obj} (N : News h₀ L h (c :: (own ++ rest))) : News h₀ L h (c :: rest) := fun p hp => N p (by
  rcases List.mem_cons.mp hp with rfl | hp
  · exact .head _
  · exact .tail _ (List.mem_append_right _ hp))
end
/-- a turn's end where nothing leaves the loop -/
def NextEnd (h₀ : Heap) (L : Addr) (own : List (Addr × Obj)) (Jn : (Str → Option Value) → List (Addr × Obj) → Prop) (s₁ : Shared) (f : Flow) (s₂ : Shared) : Prop :=
  f = .next ∧ ∃ h' tk m' nx, s₂ = { s₁ with heap := h', toks := tk } ∧ Fr h₀ L h' m' ∧ News h₀ L h' (own ++ nx) ∧ (∀ q ∈ own, ∀ p ∈ nx, q.1 ≠ p.1) ∧ Jn m' nx
theorem fr_kst1 {h₀ h : Heap} {L : Addr} {m₁ : Str → Option Value} {x : Str} {v : Value} (h1 : m₁ x = some v) (F : Fr h₀ L h m₁) : Fr h₀ L h (fun z => if z = x then some v else m₁ z) :=
  fr_kst [(x, v)] F (by intro z hz; rw [List.mem_singleton.mp hz]; exact h1)
theorem next_coins {h₀ h' : Heap} {L C : Addr} {us : List Value} {ms : List Int} {n k : Nat} {o₀ : Obj} {own own₂ news : List (Addr × Obj)} {m' : Str → Option Value} {s₁ : Shared} {tk : Tok} (F : Fr h₀ L h' m') (N : News h₀ L h' ((C, PySem.W.listOf us.toArray n) :: (own₂ ++ (own ++ news)))) (hoff : ∀ q ∈ own, ∀ p ∈ (C, o₀) :: news, q.1 ≠ p.1)
    (hus : IntsAre us ms) (hk : ms.length ≤ k) (hm : m' (Str.ofString "coins") = some (.ref C)) :
    NextEnd h₀ L own (fun m₁ nx => ∃ us ms n, nx = (C, PySem.W.listOf us.toArray n) :: news ∧ IntsAre us ms ∧ ms.length ≤ k ∧ m₁ (Str.ofString "coins") = some (.ref C)) s₁ .next { s₁ with heap := h', toks := tk } := by
  refine ⟨rfl, h', tk, m', (C, PySem.W.listOf us.toArray n) :: news, rfl, F, news_out (news_drop N), fun q hq p hp => ?_, us, ms, n, rfl, hus, hk, hm⟩
  rcases List.mem_cons.mp hp with rfl | hp
  · exact hoff q hq (C, o₀) (.head _)
  · exact hoff q hq p (.tail _ hp)
theorem off_coins {C : Addr} {o₀ o₁ : Obj} {own own₂ news : List (Addr × Obj)} (h2 : ∀ q ∈ own₂, ∀ p ∈ (C, o₁) :: (own ++ news), q.1 ≠ p.1) (h1 : ∀ q ∈ own, ∀ p ∈ (C, o₀) :: news, q.1 ≠ p.1) (hlt : ∀ p ∈ news, p.1 < C) : ∀ p ∈ own₂ ++ (own ++ news), p.1 ≠ C := fun p hp => by
  rcases List.mem_append.mp hp with hp | hp
  · exact h2 p hp _ (.head _)
  rcases List.mem_append.mp hp with hp | hp
  · exact h1 p hp _ (.head _)
  · exact Nat.ne_of_lt (hlt p hp)
theorem off_same {C : Addr} {o o' : Obj} {own r : List (Addr × Obj)} (h : ∀ q ∈ own, ∀ p ∈ (C, o) :: r, q.1 ≠ p.1) : ∀ q ∈ own, ∀ p ∈ (C, o') :: r, q.1 ≠ p.1 := fun q hq p hp => by
  rcases List.mem_cons.mp hp with rfl | hp
  · exact h q hq (C, o) (.head _)
  · exact h q hq p (.tail _ hp)
theorem list_loop {prog : Program} {w : World} {A : Around} {E : Value → Shared → Prop} {s : Shared} {env : Env} {h₀ : Heap} {x : Str} {body : List Stmt} {Q : Flow → Shared → Prop} {l : Addr} {items : List Value} {m₀ : Str → Option Value} {news : List (Addr × Obj)} (J : Nat → (Str → Option Value) → List (Addr × Obj) → Prop)
    (hh : A.handled = none) (hl : s.heap.IsList l items.toArray) (hlL : env.locals ≠ l) (hJ : ∀ i m nx, J i m nx → ∀ p ∈ nx, p.1 ≠ l) (F : Fr h₀ env.locals s.heap m₀) (N : News h₀ env.locals s.heap news) (h0 : J 0 m₀ news)
    (turn : ∀ i v m₁ nx (s₁ : Shared) own, i < items.length → items[i]? = some v → J i m₁ nx → (∀ q ∈ own, ∀ p ∈ nx, q.1 ≠ p.1) → Fr h₀ env.locals s₁.heap (fun y => if y = x then some v else m₁ y) → News h₀ env.locals s₁.heap (own ++ nx) →
      wpAny (model prog w) A (execs body env) (NextEnd h₀ env.locals own (J (i + 1)) s₁) E s₁)
    (done : ∀ m₁ nx h tk, J items.length m₁ nx → Fr h₀ env.locals h m₁ → News h₀ env.locals h nx → Q .next { s with heap := h, toks := tk }) :
    wpAny (model prog w) A (pyIter (.ref l)) (fun it s₂ => LoopAtU prog w A h₀ env x body Q E it s₂) E s := by
  refine wpAny_pyIter_list hl ?_
  have hne : l ≠ s.heap.objs.size := by
    obtain ⟨o, ho, _⟩ := hl
    exact Nat.ne_of_lt (Heap.lt_size ho)
  have W := (Walks.list (prog := prog) (w := w) hh s.heap.objs.size l hne items.toArray).bound
  refine ⟨_, _, _, _, _, _, m₀, news, J, rfl, W, ?_, ?_, ?_, ⟨⟨_, Heap.get?_push_size _ rfl, rfl, rfl⟩, ?_⟩, F.push _, (fun p hp => ⟨Heap.get?_push_of_some _ (N p hp).1, (N p hp).2⟩), h0, ?_, ?_⟩
  · intro hm
    rcases List.mem_cons.mp hm with hm | hm
    · exact absurd F.ns.lt (hm ▸ Nat.lt_irrefl _)
    · exact hlL (List.mem_singleton.mp hm)
  · intro b hb
    rw [List.mem_singleton.mp hb]
    exact next_is_new F
  · intro p hp hI
    exact absurd (Heap.lt_size (N p hp).1) ((List.mem_singleton.mp hI) ▸ Nat.lt_irrefl _)
  · obtain ⟨o, ho, h1⟩ := hl
    exact ⟨o, Heap.get?_push_of_some _ ho, h1⟩
  · rintro i v m₁ nx s₁ own hi ⟨_, hv⟩ hJ₁ hoff hown _ hall hst F₁ N₁
    obtain ⟨oI, hoI, _⟩ := hst.1
    have hI : (s.heap.objs.size, oI) ∈ own := hall s.heap.objs.size (.head _) (next_is_new F) _ hoI
    refine wpAny_mono (turn i v m₁ nx s₁ own (by simpa using hi) (by simpa using hv) hJ₁ (fun q hq p hp e => ?_) F₁ N₁) (fun f s₂ p => ?_) fun _ _ e => e
    · have hm := hown q hq
      rcases List.mem_cons.mp hm with hm | hm
      · exact hoff p hp (by rw [← e, hm]; exact .head _)
      · exact hJ i m₁ nx hJ₁ p hp (e ▸ List.mem_singleton.mp hm)
    · obtain ⟨rfl, h', tk, m', nx', e, F', N', ho, hj⟩ := p
      refine ⟨rfl, h', tk, m', nx', e, F', N', fun p hp hq => ?_, hj⟩
      exact ho _ hI p hp (List.mem_singleton.mp hq).symm
  · rintro h' tk m' news' F' N' _ hJ'
    exact done m' news' h' tk (by simpa using hJ') F' N'
theorem rg29 : True := by
  k_with "call builtin:list.reverse" => (k_here; k_dflt (refine' kl_reverse (l := List.reverse _) ?F ?N ?e (.head ?a) ?z ?_; (case F => k_asm); (case N => k_asm); (case e => rfl); (case a => (intro p9 hp9; exact Nat.ne_of_lt (lt_all2 (by assumption) p9 hp9))); (case z => exact fit_u (k := 60) (by assumption) (by omega) (by decide))); (intro h' F' N'))
  trivial
section
variable {w : World} {dp un : Nat} {gd : Option (List Code)} {base h₀ : Heap} {outer : List Env} {cn : Str} {cs : Scope} {L a : Addr} {ccd : Value} {s : Shared} {m mg mb : Str → Option Value} {mean : ExcName → Option Value} {news : List (Addr × Obj)} {E : Value → Shared → Prop} {Q : Value → Shared → Prop}

theorem coins_loop {oc : Value} {od : Option Addr} {name qual : Str} {params : Arguments} {bd : List Stmt} {sc : Scope} {dV kV doc pm cdv ct : Value} {an : Option Addr} {osl : Array (Option Value)} (hsc : (hd.heap_39 w.params).lookup 183 = some ⟨oc, od, .func (fnOf name qual params bd sc dV kV doc pm an cdv ct), osl⟩)
    {L' C D' : Addr} {g' : Heap} {s₁ : Shared} {ws : List Value} {ks : List Int} {n0 : Nat} {m₀ : Str → Option Value} {Q₁ : Flow → Shared → Prop} {E₁ : Value → Shared → Prop}
    (X' : (hd.heap_39 w.params).In g') (T' : TopP mg mb mean g') (B' : Below ((A0 dp un gd outer).deeper (envOf cn cs L a ccd)) base (envOf cn cs L a ccd :: outer) g')
    (hroom : dp + 20 < recursionLimit) (hu : un + 120 < cLine)
    (F₀ : Fr g' L' s₁.heap m₀) (N₀ : News g' L' s₁.heap ((D', PySem.W.listOf ws.toArray n0) :: (C, PySem.W.listOf ([] : List Value).toArray 0) :: news)) (hI₀ : IntsAre ws ks) (hk : ks.length ≤ 50) (l1 : C < D' ∧ AllLt D' news) (hlt : ∀ p ∈ news, p.1 < C) (hE₁ : PassesOwn (model PySem.Challenge.rw_pq1399_01.row.prog w) (((A0 dp un gd outer).deeper (envOf cn cs L a ccd)).deeper (envOf (Str.ofString "_law_coins") sc L' 183 (.ref 182))) (envOf (Str.ofString "_law_coins") sc L' 183 (.ref 182)) E₁) (hm₀ : m₀ (Str.ofString "coins") = some (.ref C))
    (hdone : ∀ us ms n m₁ h tk, IntsAre us ms → ms.length ≤ 600 → m₁ (Str.ofString "coins") = some (.ref C) → Fr g' L' h m₁ → News g' L' h ((C, PySem.W.listOf us.toArray n) :: news) → Q₁ .next { s₁ with heap := h, toks := tk }) :
    wpAny (model PySem.Challenge.rw_pq1399_01.row.prog w) (((A0 dp un gd outer).deeper (envOf cn cs L a ccd)).deeper (envOf (Str.ofString "_law_coins") sc L' 183 (.ref 182))) (pyIter (.ref D'))
      (fun it s₂ => LoopAtU PySem.Challenge.rw_pq1399_01.row.prog w (((A0 dp un gd outer).deeper (envOf cn cs L a ccd)).deeper (envOf (Str.ofString "_law_coins") sc L' 183 (.ref 182))) g' (envOf (Str.ofString "_law_coins") sc L' 183 (.ref 182)) (Str.ofString "cell") (loopBody bd) Q₁ E₁ it s₂) E₁ s₁ := by
  have e := hsc.symm.trans (show (hd.heap_39 w.params).lookup 183 = _ by k_is)
  cases e
  clear hsc
  dsimp only [loopBody]
  have hlw := hI₀.length
  refine list_loop (fun i m₁ nx => ∃ us ms n, nx = (C, PySem.W.listOf us.toArray n) :: news ∧ IntsAre us ms ∧ ms.length ≤ 12 * i ∧ m₁ (Str.ofString "coins") = some (.ref C)) rfl ⟨_, (N₀ _ (.head _)).1, rfl, _, rfl⟩ (fun e => (N₀ _ (.head _)).2.1 e.symm) ?_ F₀ (cb_drop N₀ (fun z hz => .tail _ hz)) ⟨[], [], 0, rfl, .nil, Nat.le_refl _, hm₀⟩ ?_ ?_
  · rintro i m₁ nx ⟨us, ms, n, rfl, _⟩ p hp
    exact Nat.ne_of_lt (lt_all l1.1 l1.2 p hp)
  · rintro i v m₁ nx s₂ own hi hv ⟨us, ms, n, rfl, hus, hms, hmc⟩ hoff F₁ N₁
    obtain ⟨k, tv, rfl⟩ := ints_at hI₀ hv
    obtain ⟨hp₂, gs₂, dr₂, tk₂, os₂⟩ := s₂
    have F₁ := fr_kst [(Str.ofString "cell", .int k tv), (Str.ofString "coins", .ref C)] F₁ (by intro z hz; simp only [List.mem_cons, List.not_mem_nil, or_false] at hz; rcases hz with rfl | rfl <;> first | rfl | exact hmc)
    simp only [kstB] at F₁
    have N₁ := news_in N₁
    k_steps
    all_goals (
      refine Halt.inn ?_
      rename Fr _ L' _ _ => F₂
      rename News _ L' _ _ => N₂
      refine range_loop0 (κ := 12) (fun i₂ m₂ nx => ∃ us ms n z t, nx = (C, PySem.W.listOf us.toArray n) :: (own ++ news) ∧ IntsAre us ms ∧ ms.length ≤ 12 * i + i₂ ∧ m₂ (Str.ofString "size_now") = some (.int z t) ∧ m₂ (Str.ofString "coins") = some (.ref C)) (by assumption) F₂ N₂ (by decide) rfl ⟨us, ms, n, _, _, rfl, hus, hms, rfl, rfl⟩ ?_ ?_
      · rintro i₂ t₂ m₂ nx h tk own₂ hi₂ ⟨us₂, ms₂, n₂, z, tz, rfl, hus₂, hms₂, hsz, hmc₂⟩ hoff₂ F₃ N₃
        have F₃ := fr_kst [(Str.ofString "lap", .int (0 + (i₂ : Nat)) t₂), (Str.ofString "size_now", .int z tz), (Str.ofString "coins", .ref C)] F₃ (by intro z hz; simp only [List.mem_cons, List.not_mem_nil, or_false] at hz; rcases hz with rfl | rfl | rfl <;> first | rfl | exact hsz | exact hmc₂)
        simp only [kstB] at F₃
        have N₃ := news_in N₃
        have hne := off_coins hoff₂ hoff hlt
        have hi12 : i₂ < 12 := hi₂
        have hlen₂ : ms₂.length ≤ 700 := by omega
        k_steps
        · rename News _ L' _ _ => N9
          rw [List.push_toArray] at N9
          dsimp only [TurnEnd]
          k_steps
          exact next_coins (own₂ := own₂) (by assumption) N9 hoff (ints_snoc hus₂) (by rw [List.length_append, List.length_singleton]; omega) rfl
        · rename News _ L' _ _ => N9
          rw [List.push_toArray] at N9
          exact ⟨_, _, _, _, rfl, by assumption, news_out N9, off_same hoff₂, _, _, _, _, _, rfl, ints_snoc hus₂, (by rw [List.length_append, List.length_singleton]; omega), rfl, rfl⟩
      · rintro m₂ nx h tk ⟨us₂, ms₂, n₂, z, tz, rfl, hus₂, hms₂, hsz, hmc₂⟩ F₃ N₃
        have F₃ := fr_kst1 hmc₂ F₃
        k_steps
        exact next_coins (own₂ := []) (by assumption) (by assumption) hoff hus₂ (by omega) rfl)
  · rintro m₁ nx h tk ⟨us, ms, n, rfl, hus, hms, hmc⟩ F₁ N₁
    exact hdone us ms n m₁ h tk hus (by omega) hmc F₁ N₁

theorem coins_spec {S : Addr} {vs : List Value} {ns : List Int} (hL : h₀.IsList S vs.toArray) (hI : IntsAre vs ns) (hlen : ns.length ≤ 63) (B : Below (A0 dp un gd outer) base outer h₀) (F : Fr h₀ L s.heap m) (X : (hd.heap_39 w.params).In h₀) (N : News h₀ L s.heap news) (T : TopP mg mb mean h₀)
    (hroom : dp + 20 < recursionLimit) (hu : un + 120 < cLine) (hk : cs.kind = .function)
    (hret : ∀ C us ms n' h' tk', IntsAre us ms → ms.length ≤ 60 → Fr h₀ L h' m → News h₀ L h' ((C, PySem.W.listOf us.toArray n') :: news) → (∀ z ∈ news, z.1 < C) → Q (.ref C) { s with heap := h', toks := tk' }) :
    wpAny (model PySem.Challenge.rw_pq1399_01.row.prog w) ((A0 dp un gd outer).deeper (envOf cn cs L a ccd)) (call (.ref 183) [.ref S]) Q E s := by
  k_dflt (refine' enterK [(Str.ofString "script", .ref S)] B F X N T ?kA ?kF ?kK ?k6 ?k7 ?k8 ?k9 ?kB ?_ ?c2 ?c3 ?c4 ?c5; (case kA => exact rfl); (case kF => exact rfl); (case kK => assumption); (case k6 => k_is); (case k7 => k_is); (case k8 => ktr_room); (case k9 => exact BindsTo.of_eq rfl); (case c5 => decide); (case kB => exact locs rfl); (case c2 => exact rfl); (case c3 => exact rfl); (case c4 => exact rfl))
  intro g' L' h' FG' F' N' B' X' T'
  simp only [List.reverse_cons, List.reverse_nil, List.nil_append, List.cons_append, kstB] at F'
  have hL' : g'.IsList S vs.toArray := hL.imp fun o ho => ⟨FG'.keep _ _ ho.1, ho.2⟩
  k_steps
  refine Halt.inn ?_
  have hsc := (show (hd.heap_39 w.params).lookup 183 = _ by k_is)
  refine coins_loop hsc X' T' B' (by omega) (by omega) (by assumption) (by assumption) (by assumption) (by simp only [List.length_take]; omega) (by assumption) (by assumption) (by passes_own) rfl ?_
  clear hsc
  intro us ms n m₁ h tk hus hms hmc F₁ N₁
  have F₁ := fr_kst1 hmc F₁
  k_steps
  rename IntsAre _ (List.take 60 ms) => hI60
  have hR := ints_rev hI60
  rename News h₀ _ _ _ => N9
  refine hret _ _ _ _ _ _ hR ?_ (by assumption) (news_cut N9) ?_
  · rw [List.length_reverse, List.length_take]
    omega
  · exact fun z hz => lt_all2 (o := PySem.W.listOf us.toArray n) (by assumption) z (.tail _ hz)
end
end
section
theorem rg30 : True := by
  k_with_none
  trivial
theorem rg31 : True := by
  k_with "eval Call" => (k_here; refine Call_ ?_)
  k_with "subscriptTail Name Constant ref int" => (k_here; (rename Fr _ _ _ _ => iF); (rename News _ _ _ _ => iN); (first | with_reducible refine item0 (by assumption) iF iN (by repeat (first | exact sub_refl | refine sub_cons ?_ | refine sub_app ?_)) ?_ | with_reducible refine item1 (by assumption) iF iN (by repeat (first | exact sub_refl | refine sub_cons ?_ | refine sub_app ?_)) ?_ | with_reducible refine item0 TupG.of1 iF iN sub_refl ?_ | with_reducible refine item1 TupG.of1 iF iN sub_refl ?_ | with_reducible refine item0 TupG.of2 iF iN sub_refl ?_ | with_reducible refine item1 TupG.of2 iF iN sub_refl ?_))
  k_with "eval Name" => (k_here; (with_reducible show wpAny _ _ (eval (Expr.Name (Str.ofString "MOST_PART") _) _) _ _ _); k_dflt (refine' name_K ?k1 ?k2 ?k3 nsMP ?_ ?k4 ?k5 ?k6; (case k1 => k_asm); (case k2 => k_asm); (case k3 => k_asm); (case k4 => rfl); (case k5 => rfl); (case k6 => decide)))
  k_with "exec Raise some none" => (k_here; k_dflt (refine' raise_refusal ?k1 ?k2 ?k3 ?k4 ?k5 ?k6 ?k7 ?k8 ?k9 ?k0 ?_; (case k1 => k_asm); (case k2 => k_asm); (case k3 => k_asm); (case k4 => k_asm); (case k5 => k_asm); (case k6 => rfl); (case k7 => ktr_room); (case k8 => ktr_units); (case k9 => first | rfl | assumption); (case k0 => rfl); k_whole); intro e' dx' t' h' tk' u' u'' F' N' hne')
  k_with "leaving ref" => (k_here; k_dflt (refine' leaveRaiseN ?k1 ?k2 ?k3 ?c1 ?c2 ?c3 ?c4 ?k4 ?k5 ?_ ?k6; (case k1 => k_asm); (case k2 => k_asm); (case k3 => assumption); (case c1 => rfl); (case c2 => rfl); (case c3 => rfl); (case c4 => rfl); (case k4 => (intro _ h9; cases h9)); (case k5 => assumption); (case k6 => rfl); k_whole); intro h' R' U')
  k_with "leaving ref" => (k_here; (rename FliesD _ _ _ _ _ _ _ _ _ => rF); k_dflt (refine' leaveOnD ?k1 ?k2 rF ?k4 ?k5 ?_; (case k1 => k_asm); (case k2 => assumption); (case k4 => (intro _ h9; cases h9)); (case k5 => assumption); k_whole); clear rF; intro h' R' U')
  k_with "call ref" => (k_here; k_dflt (refine' choose_spec ?p0 ?p1 ?p2 ?p3 ?p4 ?p5 ?p6 ?p7 ?p8 ?k1 ?k2 ?k3 ?k4 ?k5 ?k6 ?k7 ?k8 (fun p' q' hmk' D' t1' t2' nx' h' tk' F' N' hsub' hT' => ?_) (fun hmk' e' dx' u' u'' G' h' tk' FG9' R' U' => ?_); (case k1 => k_asm); (case k2 => k_asm); (case k3 => k_asm); (case k4 => k_asm); (case k5 => k_asm); (case k6 => ktr_room); (case k7 => ktr_units); (case k8 => first | rfl | assumption); (case p0 => first | exact TupG.of (by k_mem) | (refine TupG.up (by assumption) (fun _ _ e => e) ?_; repeat (first | exact sub_refl | refine sub_cons ?_ | refine sub_app ?_))); (case p1 => first | exact TupG.of (by k_mem) | (refine TupG.up (by assumption) (fun _ _ e => e) ?_; repeat (first | exact sub_refl | refine sub_cons ?_ | refine sub_app ?_))); (case p2 => first | assumption | omega); (case p3 => first | assumption | omega); (case p4 => first | assumption | omega); (case p5 => first | assumption | omega); (case p6 => first | assumption | omega); (case p7 => first | assumption | omega); (case p8 => first | assumption | omega)); skip)
  trivial
section
variable {prog : Program} {w : World} {A₀ A : Around} {s : Shared} {base h₀ : Heap} {L a : Addr} {cn : Str} {cs : Scope} {ccd : Value} {m mg mb : Str → Option Value} {news : List (Addr × Obj)} {K : Frag} {p : Program} {loose : List Str} {mean : ExcName → Option Value}
theorem enterS {Q E : Value → Shared → Prop} {name qual : Str} {params : Arguments} {body : List Stmt} {scope : Scope} {dV kV doc pm cdv ct oc : Value} {an od : Option Addr} {osl : Array (Option Value)} {f : Addr} {vals : List Value} (binds : List (Str × Value))
    (B : Below A₀ base [] h₀) (F : Fr h₀ L s.heap m) (X₀ : K.In h₀) (N : News h₀ L s.heap news) (T : Top p loose mean mg mb h₀) (hA : A.frames = some [envOf cn cs L a ccd])
    (ho : K.lookup f = some ⟨oc, od, .func (fnOf name qual params body scope dV kV doc pm an cdv ct), osl⟩) (hcd : codeIn K cdv qual = true) (hroom : A.depth < recursionLimit)
    (hbind : BindsTo s (fnOf name qual params body scope dV kV doc pm an cdv ct) ⟨vals, []⟩ binds) (hloc : ∀ y ∈ binds, scope.names.lookup y.1 = some .local)
    (h : ∀ g L' h₁, Fr h₀ L g m → Fr g L' h₁ (kstB (fun _ => none) binds.reverse) → News g L' h₁ news → Below A base [envOf cn cs L a ccd] g → K.In g → Top p loose mean mg mb g → KtsDicts ([envOf cn cs L a ccd].filterMap (·.frame)) g →
      wpAny (model prog w) (A.deeper (envOf qual scope L' f cdv)) (execs body (envOf qual scope L' f cdv))
        (fun fl s' => LeaveS0 ([envOf cn cs L a ccd].filterMap (·.frame)) h₀ L m g (fun r s' => match r with | .ok (.ret v) => Q v s' | .ok _ => False | .error e => E e s') (match fl with | .ret v => v | _ => .none) s')
        (fun e s' => wpAny (model prog w) (A.deeper (envOf qual scope L' f cdv)) (leaving (envOf qual scope L' f cdv) e) (fun _ s'' => E e s'') (fun e' s'' => E e' s'') s')
        { s with heap := h₁, toks := s.toks + binds.length })
    (hck : cs.kind = .function) (hco : scope.isCoroutine = false) (hgen : scope.isGenerator = false) (hk : scope.kind = .function)
    (hcell : ∀ x ∈ scope.names, x.2 ≠ .cell) : wpAny (model prog w) A (call (.ref f) vals) Q E s :=
  wpAny_call (code_defS0 B F X₀ N T hA ho hcd hroom hbind hloc (fun g L' h₁ a b c d e f => h g L' h₁ a (lookup_kst binds.reverse ▸ b) c d e f) hck hco hgen hk hcell)
end

section
variable {prog : Program} {w : World} {A : Around} {E : Value → Shared → Prop} {s : Shared} {g : Heap} {L C : Addr} {m : Str → Option Value} {ns : List (Addr × Obj)} {value slice : PySem.Expr} {u : Tok} {v : Value} {k : Int} {its : List Value} {n : Nat} {Q : Value → Shared → Prop}
theorem kts44 {w : World} : ktsIn (hd.heap_39 w.params) 44 "BaseException" = true := by kernel_rfl
theorem args_item (N : News g L s.heap ns) (hC : (C, PySem.W.listOf its.toArray n) ∈ ns) (h0 : 0 ≤ k) (hhi : k < 2 ^ 63) (hx : its[k.toNat]? = some v) (h : Q v s)
    (hs : subscripted slice false (.ref C) (.int k u) = operate [.ref C, .int k u] (getItem (.ref C) (.int k u)) := by with_unfolding_all rfl) :
    wpAny (model prog w) A (subscriptTail value slice (.ref C) (.int k u)) Q E s := by
  have hl : s.heap.IsList C its.toArray := ⟨_, (N _ hC).1, rfl, _, rfl⟩
  exact tail_any hl.typeIs slot_list_getitem.lookup (wpAny_getItem_list hl h0 hhi (by simpa using hx) h) hs
end
theorem rg32 : True := by
  k_with "subscriptTail Name Constant ref int" => (k_here; (rename News _ _ _ _ => iN); k_dflt (refine' args_item iN ?m ?a ?b ?c ?_; (case m => assumption); (case a => decide); (case b => decide); (case c => rfl)))
  k_with "noteFrame ref" => (k_here; (rename FliesD _ _ _ _ _ _ _ _ _ => rF); k_dflt (refine' caughtD (KF := hd.heap_39 _) rF ?o ?F ?K ?U ?X ?T ?D nsRefusal ?q ?_; (case o => (intro _ h9; cases h9)); (case F => assumption); (case K => assumption); (case U => assumption); (case X => assumption); (case T => assumption); (case D => assumption); (case q => exact kts44)); (intro h' g' oe' sl' vs' tk' TT' F' N' hoc' hox' hod' K' X' T'))
  k_with "getAttr ref" => (k_here; k_dflt (refine' get_message ?F ?X ?N ?e ?d ?c ?x ?v ?_; (case F => k_asm); (case X => k_asm); (case N => k_asm); (case e => k_mem); (case d => k_mem); (case c => assumption); (case x => assumption); (case v => assumption)))
  k_with "LeaveS0" => (k_here; k_dflt (refine' leaveS0_ ?F ?N ?T ?_; (case F => k_asm); (case N => k_asm); (case T => first | assumption | exact KtsTurn.refl)); (intro kF kN))
  trivial
section
variable {w : World} {dp un : Nat} {gd : Option (List Code)} {base h₀ : Heap} {outer : List Env} {cn : Str} {cs : Scope} {L a : Addr} {ccd : Value} {s : Shared} {m mg mb : Str → Option Value} {mean : ExcName → Option Value} {news : List (Addr × Obj)} {E : Value → Shared → Prop} {Q : Value → Shared → Prop}

theorem told_choose {a' : Addr} {D D' C : Addr} {a b k : Int} {n : Nat} {t1 t2 t1' t2' : Tok} (XB : (hd.heap_39 w.params).In base) (TB : TopP mg mb mean base) (hx : TupG h₀ news D a b t1 t2) (hy : TupG h₀ news D' k 1 t1' t2') (hb : 0 < b) (hb7 : b ≤ 7) (ha : (a.natAbs : Int) ≤ MP) (hk0 : 0 ≤ k) (hk1 : k < 100000) (hM : (k.natAbs : Int) ≤ MP)
    (hs : (b = 1 ∧ 0 ≤ a ∧ a < takeC a b k) ∨ takeC a b k ≤ 6) (hC : (C, PySem.W.listOf #[.ref D, .ref D'] n) ∈ news) (B : Below (A0 dp un gd []) base [] h₀) (F : Fr h₀ L s.heap m) (X : (hd.heap_39 w.params).In h₀) (N : News h₀ L s.heap news) (T : TopP mg mb mean h₀)
    (hroom : dp + 60 < recursionLimit) (hu : un + 260 < cLine) (hk : cs.kind = .function)
    (hret : ∀ u v, chooseC a b k = some (u, v) → RetG w h₀ L m news s Q u v)
    (htxt : chooseC a b k = none → ∀ t h' tk', Fr h₀ L h' m → News h₀ L h' news → Q (.str msgT t) { s with heap := h', toks := tk' }) :
    wpAny (model PySem.Challenge.rw_pq1399_01.row.prog w) ((A0 dp un gd []).deeper (envOf cn cs L a' ccd)) (call (.ref 211) [.ref 176, .ref C]) Q E s := by
  k_dflt (refine' enterS [(Str.ofString "fn", .ref 176), (Str.ofString "args", .ref C)] B F X N T ?kA ?k6 ?k7 ?k8 ?k9 ?kB ?_ ?kK ?c2 ?c3 ?c4 ?c5; (case kA => exact rfl); (case kK => assumption); (case k6 => k_is); (case k7 => k_is); (case k8 => ktr_room); (case k9 => exact BindsTo.of_eq rfl); (case c5 => decide); (case kB => exact locs rfl); (case c2 => exact rfl); (case c3 => exact rfl); (case c4 => exact rfl))
  intro g' L' h' FG' F' N' B' X' T' KD'
  simp only [List.reverse_cons, List.reverse_nil, List.nil_append, List.cons_append, kstB] at F'
  have hx' := hx.up FG'.keep sub_refl
  have hy' := hy.up FG'.keep sub_refl
  k_steps
  · exact hret _ _ (by assumption) _ _ _ _ _ _ (by assumption) (by assumption) (by assumption) (by assumption)
  · exact htxt (by assumption) _ _ _ (by assumption) (cb_drop (by assumption) (fun z hz => .tail _ (.tail _ hz)))

theorem rg33 : True := by
  k_with "call ref" => (k_here; k_dflt (refine' factorial_spec ?p0 ?p1 ?p2 ?k1 ?k2 ?k3 ?k4 ?k5 ?k6 ?k7 ?k8 (fun hk9 D' t1' t2' n' h' tk' F' N' l' => ?_) (fun hk9 e' dx' u' u'' G' h' tk' FG9' R' U' => ?_); (case k1 => k_asm); (case k2 => k_asm); (case k3 => k_asm); (case k4 => k_asm); (case k5 => k_asm); (case k6 => ktr_room); (case k7 => ktr_units); (case k8 => first | rfl | assumption); (case p0 => first | exact TupG.of (by k_mem) | (refine TupG.up (by assumption) (fun _ _ e => e) ?_; repeat (first | exact sub_refl | refine sub_cons ?_ | refine sub_app ?_))); (case p1 => first | assumption | omega); (case p2 => first | assumption | omega)); skip)
  trivial
theorem told_fact {a' : Addr} {D C : Addr} {k : Int} {n : Nat} {t1 t2 : Tok} (XB : (hd.heap_39 w.params).In base) (TB : TopP mg mb mean base) (hx : TupG h₀ news D k 1 t1 t2) (hk4 : 4096 < k) (hC : (C, PySem.W.listOf #[.ref D] n) ∈ news) (B : Below (A0 dp un gd []) base [] h₀) (F : Fr h₀ L s.heap m) (X : (hd.heap_39 w.params).In h₀) (N : News h₀ L s.heap news) (T : TopP mg mb mean h₀)
    (hroom : dp + 60 < recursionLimit) (hu : un + 260 < cLine) (hk : cs.kind = .function)
    (htxt : ∀ t h' tk', Fr h₀ L h' m → News h₀ L h' news → Q (.str msgT t) { s with heap := h', toks := tk' }) :
    wpAny (model PySem.Challenge.rw_pq1399_01.row.prog w) ((A0 dp un gd []).deeper (envOf cn cs L a' ccd)) (call (.ref 211) [.ref 169, .ref C]) Q E s := by
  k_dflt (refine' enterS [(Str.ofString "fn", .ref 169), (Str.ofString "args", .ref C)] B F X N T ?kA ?k6 ?k7 ?k8 ?k9 ?kB ?_ ?kK ?c2 ?c3 ?c4 ?c5; (case kA => exact rfl); (case kK => assumption); (case k6 => k_is); (case k7 => k_is); (case k8 => ktr_room); (case k9 => exact BindsTo.of_eq rfl); (case c5 => decide); (case kB => exact locs rfl); (case c2 => exact rfl); (case c3 => exact rfl); (case c4 => exact rfl))
  intro g' L' h' FG' F' N' B' X' T' KD'
  simp only [List.reverse_cons, List.reverse_nil, List.nil_append, List.cons_append, kstB] at F'
  have hx' := hx.up FG'.keep sub_refl
  k_steps
  · exfalso
    omega
  · exact htxt _ _ _ (by assumption) (cb_drop (by assumption) (fun z hz => .tail _ (.tail _ hz)))
end
end
section
theorem rg34 : True := by
  k_with_none
  trivial
section
variable {prog : Program} {w : World} {A : Around} {E : Value → Shared → Prop} {s : Shared} {g g2 : Heap} {L : Addr} {m : Str → Option Value} {n1 n2 ns : List (Addr × Obj)} {D D' : Addr} {p q : Int} {t1 t2 t1' t2' : Tok} {Q : Value → Shared → Prop}
theorem ne_same (x : TupG g n1 D p q t1 t2) (y : TupG g n2 D' p q t1' t2') (F : Fr g L s.heap m) (N : News g L s.heap ns) (h1 : ∀ z ∈ n1, z ∈ ns) (h2 : ∀ z ∈ n2, z ∈ ns) (hu : A.units + 64 < cLine)
    (h : Q (.bool false) s) : wpAny (model prog w) A (compareOp .NotEq (.ref D) (.ref D')) Q E s :=
  ne_pairs x y F N h1 h2 hu (by simpa using h)
end
theorem fr_kst3 {h₀ h : Heap} {L : Addr} {m₁ : Str → Option Value} {x y z : Str} {v v' v'' : Value} (h1 : m₁ x = some v) (h2 : m₁ y = some v') (h3 : m₁ z = some v'') (F : Fr h₀ L h m₁) : Fr h₀ L h (fun k => if k = x then some v else if k = y then some v' else if k = z then some v'' else m₁ k) :=
  fr_kst [(x, v), (y, v'), (z, v'')] F (by
    intro p hp
    simp only [List.mem_cons, List.not_mem_nil, or_false] at hp
    rcases hp with rfl | rfl | rfl <;> assumption)
theorem ne_head {C X : Addr} {o : Obj} {r : List (Addr × Obj)} (h : ∀ z ∈ (C, o) :: r, z.1 < X) : X ≠ C := Nat.ne_of_gt (h _ (.head _))
theorem ne_nil {C : Addr} : ∀ p ∈ ([] : List (Addr × Obj)), p.1 ≠ C := fun _ hp => nomatch hp
theorem ne_one {C X : Addr} {o : Obj} (h : X ≠ C) : ∀ p ∈ [(X, o)], p.1 ≠ C := fun p hp => by
  rw [List.mem_singleton.mp hp]
  exact h
theorem news_swap {h₀ h : Heap} {L : Addr} {x y : Addr × Obj} {r : List (Addr × Obj)} (N : News h₀ L h (x :: y :: r)) : News h₀ L h (y :: x :: r) := fun p hp => N p (by
  rcases List.mem_cons.mp hp with rfl | hp
  · exact .tail _ (.head _)
  rcases List.mem_cons.mp hp with rfl | hp
  · exact .head _
  · exact .tail _ (.tail _ hp))
theorem news_one {h₀ h : Heap} {L : Addr} {x : Addr × Obj} {r : List (Addr × Obj)} (N : News h₀ L h r) (hx : x ∈ r) : News h₀ L h [x] := fun p hp => by
  rw [List.mem_singleton.mp hp]
  exact N x hx
section
variable {w : World} {dp un : Nat} {gd : Option (List Code)} {base h₀ : Heap} {outer : List Env} {cn : Str} {cs : Scope} {L a : Addr} {ccd : Value} {s : Shared} {m mg mb : Str → Option Value} {mean : ExcName → Option Value} {news : List (Addr × Obj)} {E : Value → Shared → Prop} {Q : Value → Shared → Prop}

theorem coin_drop {C : Addr} {vs : List Value} {ns : List Int} {n : Nat} {many : Int} {tm : Tok} (hmem : (C, PySem.W.listOf vs.toArray n) ∈ news) (hv : IntsAre vs ns) (hlen : ns.length ≤ 60) (hm : 0 < many) (B : Below (A0 dp un gd outer) base outer h₀) (F : Fr h₀ L s.heap m) (X : (hd.heap_39 w.params).In h₀) (N : News h₀ L s.heap news) (T : TopP mg mb mean h₀)
    (hroom : dp + 20 < recursionLimit) (hu : un + 120 < cLine) (hk : cs.kind = .function)
    (hret : ∀ r t vs' ns' n' h' tk', 0 ≤ r → r < many → IntsAre vs' ns' → ns'.length ≤ 60 → Fr h₀ L h' m → News h₀ L h' [(C, PySem.W.listOf vs'.toArray n')] → Q (.int r t) { s with heap := h', toks := tk' }) :
    wpAny (model PySem.Challenge.rw_pq1399_01.row.prog w) ((A0 dp un gd outer).deeper (envOf cn cs L a ccd)) (call (.ref 190) [.ref C, .int many tm]) Q E s :=
  coin_spec hv hlen hm ne_nil B F X (news_one N hmem) T hroom hu hk hret
theorem rg35 : True := by
  k_with "call ref" => (k_here; k_dflt (refine' coin_drop ?c ?v ?l ?m ?k1 ?k2 ?k3 ?k4 ?k5 ?k6 ?k7 ?k8 (fun r' t' vs' ns' n' h' tk' hr0' hr1' hv' hl' F' N' => ?_); (case k1 => k_asm); (case k2 => k_asm); (case k3 => k_asm); (case k4 => k_asm); (case k5 => k_asm); (case k6 => ktr_room); (case k7 => ktr_units); (case k8 => first | rfl | assumption); (case c => k_mem); (case v => assumption); (case l => assumption); (case m => decide)))
  k_with "call ref" => (k_here; k_dflt (refine' coin_spec ?v ?l ?m ?n ?k1 ?k2 ?k3 ?k4 ?k5 ?k6 ?k7 ?k8 (fun r' t' vs' ns' n' h' tk' hr0' hr1' hv' hl' F' N' => ?_); (case k1 => k_asm); (case k2 => k_asm); (case k3 => k_asm); (case k4 => k_asm); (case k5 => k_asm); (case k6 => ktr_room); (case k7 => ktr_units); (case k8 => first | rfl | assumption); (case v => assumption); (case l => assumption); (case m => decide); (case n => first | exact ne_nil | assumption | exact ne_one (by assumption) | exact ne_one (ne_head (by assumption)))))
  trivial
local macro_rules | `(tactic| walk_at "pyIter ref") => `(tactic| (k_here; refine Halt.out ?_))

theorem rg36 : True := by
  k_with "exec For Name Call cons nil" => (k_here; (rename Fr _ _ _ _ => lF'); (with_unfolding_all refine' For_invVF (hE := ?kE) lF' ?k1 ?k2 ?_; (case kE => first | assumption | passes_own); (case k1 => exact rfl); (case k2 => exact rfl); k_whole))
  k_with "compareOp NotEq ref ref" => (k_here; (rename Fr _ _ _ _ => iF); (rename News _ _ _ _ => iN); k_dflt (refine' ne_same ?x ?y iF iN ?s1 ?s2 ?u ?_; (case x => first | assumption | exact TupG.of (by k_mem)); (case y => first | assumption | exact TupG.of (by k_mem)); (case s1 => repeat (first | exact sub_refl | refine sub_cons ?_ | refine sub_app ?_)); (case s2 => repeat (first | exact sub_refl | refine sub_cons ?_ | refine sub_app ?_)); (case u => ktr_units)))
  k_with "call ref" => (k_here; k_dflt (refine' factorial_spec ?p0 ?p1 ?p2 ?k1 ?k2 ?k3 ?k4 ?k5 ?k6 ?k7 ?k8 (fun hk9 D' t1' t2' n' h' tk' F' N' l' => ?_) (fun hk9 e' dx' u' u'' G' h' tk' FG9' R' U' => ?_); (case k1 => k_asm); (case k2 => k_asm); (case k3 => k_asm); (case k4 => k_asm); (case k5 => k_asm); (case k6 => ktr_room); (case k7 => ktr_units); (case k8 => first | rfl | assumption); (case p0 => first | exact TupG.of (by k_mem) | (refine TupG.up (by assumption) (fun _ _ e => e) ?_; repeat (first | exact sub_refl | refine sub_cons ?_ | refine sub_app ?_))); (case p1 => first | assumption | omega); (case p2 => first | assumption | omega)); skip)
  k_with "call ref" => (k_here; k_dflt (refine' told_fact ?p0 ?p1 ?p2 ?p3 ?p4 ?k1 ?k2 ?k3 ?k4 ?k5 ?k6 ?k7 ?k8 (fun t' h' tk' F' N' => ?_); (case k1 => k_asm); (case k2 => k_asm); (case k3 => k_asm); (case k4 => k_asm); (case k5 => k_asm); (case k6 => ktr_room); (case k7 => ktr_units); (case k8 => first | rfl | assumption); (case p0 => assumption); (case p1 => assumption); (case p2 => first | exact TupG.of (by k_mem) | (refine TupG.up (by assumption) (fun _ _ e => e) ?_; repeat (first | exact sub_refl | refine sub_cons ?_ | refine sub_app ?_))); (case p3 => first | assumption | omega); (case p4 => k_mem)); skip)
  k_with "binaryOp Mult int int" => (k_here; refine mul_int ?_ (by first | assumption | exact IntMulOk.of_right (PySem.intBits_le_64 (by omega) (by omega)) | exact IntMulOk.of_left (PySem.intBits_le_64 (by omega) (by omega)) | exact IntMulOk.of_right (by decide)))
  trivial
theorem law_tail {oc : Value} {od : Option Addr} {name qual : Str} {params : Arguments} {bd : List Stmt} {sc : Scope} {dV kV doc pm cdv₀ ct cdv : Value} {an : Option Addr} {osl : Array (Option Value)} (hsc : (hd.heap_39 w.params).lookup 218 = some ⟨oc, od, .func (fnOf name qual params bd sc dV kV doc pm an cdv₀ ct), osl⟩)
    {fa C : Addr} {vs : List Value} {ns : List Int} {n : Nat} {Q₁ : Flow → Shared → Prop} (hv : IntsAre vs ns) (hl : ns.length ≤ 60) (hm : m (Str.ofString "coins") = some (.ref C)) (B : Below (A0 dp un gd []) base [] h₀) (F : Fr h₀ L s.heap m) (X : (hd.heap_39 w.params).In h₀) (N : News h₀ L s.heap [(C, PySem.W.listOf vs.toArray n)]) (T : TopP mg mb mean h₀) (XB : (hd.heap_39 w.params).In base) (TB : TopP mg mb mean base)
    (hroom : dp + 80 < recursionLimit) (hu : un + 400 < cLine) (hE : PassesOwn (model PySem.Challenge.rw_pq1399_01.row.prog w) ((A0 dp un gd []).deeper (envOf (Str.ofString "law") sc L fa cdv)) (envOf (Str.ofString "law") sc L fa cdv) E)
    (hQ : ∀ m' nx h' tk', Fr h₀ L h' m' → News h₀ L h' nx → Q₁ (.ret (.bool true)) { s with heap := h', toks := tk' }) :
    wpAny (model PySem.Challenge.rw_pq1399_01.row.prog w) ((A0 dp un gd []).deeper (envOf (Str.ofString "law") sc L fa cdv)) (execs (bd.drop 3) (envOf (Str.ofString "law") sc L fa cdv)) Q₁ E s := by
  have e := hsc.symm.trans (show (hd.heap_39 w.params).lookup 218 = _ by k_is)
  cases e
  clear hsc
  simp only [List.drop_succ_cons, List.drop_zero]
  have F := fr_kst1 hm F
  k_steps
  refine Halt.inn ?_
  rename Fr _ L _ _ => F₀
  rename News _ L _ _ => N₀
  refine range_loop0 (κ := ?κ) (fun i m₁ nx => ∃ us ms n₂ u u', nx = [(C, PySem.W.listOf us.toArray n₂)] ∧ IntsAre us ms ∧ ms.length ≤ 60 ∧ m₁ (Str.ofString "total") = some (.int (facC i) u) ∧ m₁ (Str.ofString "coins") = some (.ref C) ∧ m₁ (Str.ofString "number_now") = some (.int ?κ u')) (by assumption) F₀ N₀ (by omega) rfl ⟨_, _, _, _, _, rfl, by assumption, by assumption, rfl, rfl, rfl⟩ ?_ ?_
  · rintro i t m₁ nx h tk own hi ⟨us, ms, n₂, u, u', rfl, hus, hms, htot, hco, hnum⟩ hoff F₁ N₁
    have F₁ := fr_kst [(Str.ofString "lap", .int (0 + (i : Nat)) t), (Str.ofString "total", .int (facC i) u)] F₁ (by intro z hz; simp only [List.mem_cons, List.not_mem_nil, or_false] at hz; rcases hz with rfl | rfl <;> first | rfl | exact htot)
    simp only [kstB] at F₁
    k_steps
    have e : facC i * (0 + (i : Nat) + 1) = facC (i + 1) := by
      show _ = facC i * ((i : Int) + 1)
      rw [Int.zero_add]
    exact ⟨_, _, _, _, rfl, by assumption, by assumption, hoff, us, ms, n₂, _, u', rfl, hus, hms, by exact congrArg (fun z => some (Value.int z _)) e, by exact hco, by exact hnum⟩
  · rintro m₁ nx h tk ⟨us, ms, n₂, u, u', rfl, hus, hms, htot, hco, hnum⟩ F₁ N₁
    have F₁ := fr_kst3 hco htot hnum F₁
    k_steps
    · rw [show (msgT == Str.ofString "result is not exact") = true from beq_self_eq_true _]
      exact hQ _ _ _ _ (by assumption) (by assumption)
    · exfalso
      omega
end
end
section
theorem rg37 : True := by
  k_with_none
  trivial
theorem sub_via {a b c : List (Addr × Obj)} (h : ∀ z ∈ b, z ∈ c) (h' : ∀ z ∈ a, z ∈ b) : ∀ z ∈ a, z ∈ c := fun z hz => h z (h' z hz)
theorem mem_via {x : Addr × Obj} {b c : List (Addr × Obj)} (h : ∀ z ∈ b, z ∈ c) (h' : x ∈ b) : x ∈ c := h x h'
def thn : List Stmt → List Stmt
  | .If _ b _ _ :: _ => b
  | _ => []
def els : List Stmt → List Stmt
  | .If _ _ o _ :: _ => o
  | _ => []
section
variable {w : World} {dp un : Nat} {gd : Option (List Code)} {base h₀ : Heap} {outer : List Env} {cn : Str} {cs : Scope} {L a : Addr} {ccd : Value} {s : Shared} {m mg mb : Str → Option Value} {mean : ExcName → Option Value} {news : List (Addr × Obj)} {E : Value → Shared → Prop} {Q : Value → Shared → Prop}

theorem choose_val {a' : Addr} {D D' : Addr} {a b k u v : Int} {t1 t2 t1' t2' : Tok} (hval : chooseC a b k = some (u, v)) (hx : TupG h₀ news D a b t1 t2) (hy : TupG h₀ news D' k 1 t1' t2') (hb : 0 < b) (hb7 : b ≤ 7) (ha : (a.natAbs : Int) ≤ MP) (hk0 : 0 ≤ k) (hk1 : k < 100000) (hM : (k.natAbs : Int) ≤ MP)
    (hs : (b = 1 ∧ 0 ≤ a ∧ a < takeC a b k) ∨ takeC a b k ≤ 6) (B : Below (A0 dp un gd outer) base outer h₀) (F : Fr h₀ L s.heap m) (X : (hd.heap_39 w.params).In h₀) (N : News h₀ L s.heap news) (T : TopP mg mb mean h₀)
    (hroom : dp + 48 < recursionLimit) (hu : un + 220 < cLine) (hk : cs.kind = .function)
    (hret : RetG w h₀ L m news s Q u v) :
    wpAny (model PySem.Challenge.rw_pq1399_01.row.prog w) ((A0 dp un gd outer).deeper (envOf cn cs L a' ccd)) (call (.ref 176) [.ref D, .ref D']) Q E s :=
  choose_spec hx hy hb hb7 ha hk0 hk1 hM hs B F X N T hroom hu hk (fun u' v' h => by rw [hval] at h; cases h; exact hret) (fun h => by rw [hval] at h; cases h)
theorem told_val {a' : Addr} {D D' : Addr} {a b k u v : Int} {t1 t2 t1' t2' : Tok} {A : Addr} {n : Nat} (hval : chooseC a b k = some (u, v)) (hC : (A, PySem.W.listOf #[.ref D, .ref D'] n) ∈ news) (hx : TupG h₀ news D a b t1 t2) (hy : TupG h₀ news D' k 1 t1' t2') (hb : 0 < b) (hb7 : b ≤ 7) (ha : (a.natAbs : Int) ≤ MP) (hk0 : 0 ≤ k) (hk1 : k < 100000) (hM : (k.natAbs : Int) ≤ MP)
    (hs : (b = 1 ∧ 0 ≤ a ∧ a < takeC a b k) ∨ takeC a b k ≤ 6) (B : Below (A0 dp un gd []) base [] h₀) (F : Fr h₀ L s.heap m) (X : (hd.heap_39 w.params).In h₀) (N : News h₀ L s.heap news) (T : TopP mg mb mean h₀) (XB : (hd.heap_39 w.params).In base) (TB : TopP mg mb mean base)
    (hroom : dp + 60 < recursionLimit) (hu : un + 260 < cLine) (hk : cs.kind = .function)
    (hret : RetG w h₀ L m news s Q u v) :
    wpAny (model PySem.Challenge.rw_pq1399_01.row.prog w) ((A0 dp un gd []).deeper (envOf cn cs L a' ccd)) (call (.ref 211) [.ref 176, .ref A]) Q E s :=
  told_choose XB TB hx hy hb hb7 ha hk0 hk1 hM hs hC B F X N T hroom hu hk (fun u' v' h => by rw [hval] at h; cases h; exact hret) (fun h => by rw [hval] at h; cases h)
theorem told_txt {a' : Addr} {D D' : Addr} {a b k : Int} {t1 t2 t1' t2' : Tok} {A : Addr} {n : Nat} (hval : chooseC a b k = none) (hC : (A, PySem.W.listOf #[.ref D, .ref D'] n) ∈ news) (hx : TupG h₀ news D a b t1 t2) (hy : TupG h₀ news D' k 1 t1' t2') (hb : 0 < b) (hb7 : b ≤ 7) (ha : (a.natAbs : Int) ≤ MP) (hk0 : 0 ≤ k) (hk1 : k < 100000) (hM : (k.natAbs : Int) ≤ MP)
    (hs : (b = 1 ∧ 0 ≤ a ∧ a < takeC a b k) ∨ takeC a b k ≤ 6) (B : Below (A0 dp un gd []) base [] h₀) (F : Fr h₀ L s.heap m) (X : (hd.heap_39 w.params).In h₀) (N : News h₀ L s.heap news) (T : TopP mg mb mean h₀) (XB : (hd.heap_39 w.params).In base) (TB : TopP mg mb mean base)
    (hroom : dp + 60 < recursionLimit) (hu : un + 260 < cLine) (hk : cs.kind = .function)
    (htxt : ∀ t h' tk', Fr h₀ L h' m → News h₀ L h' news → Q (.str msgT t) { s with heap := h', toks := tk' }) :
    wpAny (model PySem.Challenge.rw_pq1399_01.row.prog w) ((A0 dp un gd []).deeper (envOf cn cs L a' ccd)) (call (.ref 211) [.ref 176, .ref A]) Q E s :=
  told_choose XB TB hx hy hb hb7 ha hk0 hk1 hM hs hC B F X N T hroom hu hk (fun u' v' h => by rw [hval] at h; cases h) (fun _ => htxt)
theorem product_val {a' : Addr} {D : Addr} {a b k u v : Int} {t1 t2 tk0 : Tok} (hval : lawC a b k.toNat = some (u, v)) (hx : TupG h₀ news D a b t1 t2) (hb : 0 < b) (hb7 : b ≤ 7) (ha : (a.natAbs : Int) ≤ MP) (hk0 : 0 ≤ k) (hk6 : k ≤ 6) (B : Below (A0 dp un gd outer) base outer h₀) (F : Fr h₀ L s.heap m) (X : (hd.heap_39 w.params).In h₀) (N : News h₀ L s.heap news) (T : TopP mg mb mean h₀)
    (hroom : dp + 20 < recursionLimit) (hu : un + 120 < cLine) (hk : cs.kind = .function)
    (hret : RetG w h₀ L m news s Q u v) :
    wpAny (model PySem.Challenge.rw_pq1399_01.row.prog w) ((A0 dp un gd outer).deeper (envOf cn cs L a' ccd)) (call (.ref 204) [.ref D, .int k tk0]) Q E s :=
  product_spec hx hb hb7 ha hk0 hk6 B F X N T hroom hu hk (fun u' v' h => by rw [hval] at h; cases h; exact hret) (fun h => by rw [hval] at h; cases h)
theorem product_txt {a' : Addr} {D : Addr} {a b k : Int} {t1 t2 tk0 : Tok} (hval : lawC a b k.toNat = none) (hx : TupG h₀ news D a b t1 t2) (hb : 0 < b) (hb7 : b ≤ 7) (ha : (a.natAbs : Int) ≤ MP) (hk0 : 0 ≤ k) (hk6 : k ≤ 6) (B : Below (A0 dp un gd outer) base outer h₀) (F : Fr h₀ L s.heap m) (X : (hd.heap_39 w.params).In h₀) (N : News h₀ L s.heap news) (T : TopP mg mb mean h₀)
    (hroom : dp + 20 < recursionLimit) (hu : un + 120 < cLine) (hk : cs.kind = .function)
    (htxt : ∀ t h' tk', Fr h₀ L h' m → News h₀ L h' news → Q (.str msgT t) { s with heap := h', toks := tk' }) :
    wpAny (model PySem.Challenge.rw_pq1399_01.row.prog w) ((A0 dp un gd outer).deeper (envOf cn cs L a' ccd)) (call (.ref 204) [.ref D, .int k tk0]) Q E s :=
  product_spec hx hb hb7 ha hk0 hk6 B F X N T hroom hu hk (fun u' v' h => by rw [hval] at h; cases h) (fun _ => htxt)
end
theorem rg38 : True := by
  k_with "call ref" => (k_here; k_dflt (refine' choose_val ?p0 ?p1 ?p2 ?p3 ?p4 ?p5 ?p6 ?p7 ?p8 ?p9 ?k1 ?k2 ?k3 ?k4 ?k5 ?k6 ?k7 ?k8 (fun D' t1' t2' nx' h' tk' F' N' hsub' hT' => ?_); (case k1 => k_asm); (case k2 => k_asm); (case k3 => k_asm); (case k4 => k_asm); (case k5 => k_asm); (case k6 => ktr_room); (case k7 => ktr_units); (case k8 => first | rfl | assumption); (case p1 => first | exact TupG.of (by k_mem) | (refine TupG.up (by assumption) (fun _ _ e => e) ?_; (repeat (first | exact sub_refl | refine sub_cons ?_ | refine sub_app ?_ | refine sub_via (by assumption) ?_))) | (refine TupG.up (TupK.to (by assumption) (by assumption)) (fun _ _ e => e) ?_; (repeat (first | exact sub_refl | refine sub_cons ?_ | refine sub_app ?_ | refine sub_via (by assumption) ?_)))); (case p2 => first | exact TupG.of (by k_mem) | (refine TupG.up (by assumption) (fun _ _ e => e) ?_; (repeat (first | exact sub_refl | refine sub_cons ?_ | refine sub_app ?_ | refine sub_via (by assumption) ?_))) | (refine TupG.up (TupK.to (by assumption) (by assumption)) (fun _ _ e => e) ?_; (repeat (first | exact sub_refl | refine sub_cons ?_ | refine sub_app ?_ | refine sub_via (by assumption) ?_)))); (case p0 => assumption); (case p3 => first | assumption | decide | omega); (case p4 => first | assumption | decide | omega); (case p5 => first | assumption | decide | omega); (case p6 => first | assumption | decide | omega); (case p7 => first | assumption | decide | omega); (case p8 => first | assumption | decide | omega); (case p9 => first | assumption | decide | omega)); skip)
  k_with "call ref" => (k_here; k_dflt (refine' told_val ?v ?c ?p1 ?p2 ?p3 ?p4 ?p5 ?p6 ?p7 ?p8 ?p9 ?k1 ?k2 ?k3 ?k4 ?k5 ?xb ?tb ?k6 ?k7 ?k8 (fun D' t1' t2' nx' h' tk' F' N' hsub' hT' => ?_); (case k1 => k_asm); (case k2 => k_asm); (case k3 => k_asm); (case k4 => k_asm); (case k5 => k_asm); (case xb => assumption); (case tb => assumption); (case k6 => ktr_room); (case k7 => ktr_units); (case k8 => first | rfl | assumption); (case c => k_mem); (case p1 => first | exact TupG.of (by k_mem) | (refine TupG.up (by assumption) (fun _ _ e => e) ?_; (repeat (first | exact sub_refl | refine sub_cons ?_ | refine sub_app ?_ | refine sub_via (by assumption) ?_))) | (refine TupG.up (TupK.to (by assumption) (by assumption)) (fun _ _ e => e) ?_; (repeat (first | exact sub_refl | refine sub_cons ?_ | refine sub_app ?_ | refine sub_via (by assumption) ?_)))); (case p2 => first | exact TupG.of (by k_mem) | (refine TupG.up (by assumption) (fun _ _ e => e) ?_; (repeat (first | exact sub_refl | refine sub_cons ?_ | refine sub_app ?_ | refine sub_via (by assumption) ?_))) | (refine TupG.up (TupK.to (by assumption) (by assumption)) (fun _ _ e => e) ?_; (repeat (first | exact sub_refl | refine sub_cons ?_ | refine sub_app ?_ | refine sub_via (by assumption) ?_)))); (case v => assumption); (case p3 => first | assumption | decide | omega); (case p4 => first | assumption | decide | omega); (case p5 => first | assumption | decide | omega); (case p6 => first | assumption | decide | omega); (case p7 => first | assumption | decide | omega); (case p8 => first | assumption | decide | omega); (case p9 => first | assumption | decide | omega)))
  k_with "call ref" => (k_here; k_dflt (refine' told_txt ?v ?c ?p1 ?p2 ?p3 ?p4 ?p5 ?p6 ?p7 ?p8 ?p9 ?k1 ?k2 ?k3 ?k4 ?k5 ?xb ?tb ?k6 ?k7 ?k8 (fun t' h' tk' F' N' => ?_); (case k1 => k_asm); (case k2 => k_asm); (case k3 => k_asm); (case k4 => k_asm); (case k5 => k_asm); (case xb => assumption); (case tb => assumption); (case k6 => ktr_room); (case k7 => ktr_units); (case k8 => first | rfl | assumption); (case c => k_mem); (case p1 => first | exact TupG.of (by k_mem) | (refine TupG.up (by assumption) (fun _ _ e => e) ?_; (repeat (first | exact sub_refl | refine sub_cons ?_ | refine sub_app ?_ | refine sub_via (by assumption) ?_))) | (refine TupG.up (TupK.to (by assumption) (by assumption)) (fun _ _ e => e) ?_; (repeat (first | exact sub_refl | refine sub_cons ?_ | refine sub_app ?_ | refine sub_via (by assumption) ?_)))); (case p2 => first | exact TupG.of (by k_mem) | (refine TupG.up (by assumption) (fun _ _ e => e) ?_; (repeat (first | exact sub_refl | refine sub_cons ?_ | refine sub_app ?_ | refine sub_via (by assumption) ?_))) | (refine TupG.up (TupK.to (by assumption) (by assumption)) (fun _ _ e => e) ?_; (repeat (first | exact sub_refl | refine sub_cons ?_ | refine sub_app ?_ | refine sub_via (by assumption) ?_)))); (case v => assumption); (case p3 => first | assumption | decide | omega); (case p4 => first | assumption | decide | omega); (case p5 => first | assumption | decide | omega); (case p6 => first | assumption | decide | omega); (case p7 => first | assumption | decide | omega); (case p8 => first | assumption | decide | omega); (case p9 => first | assumption | decide | omega)))
  k_with "call ref" => (k_here; k_dflt (refine' product_val ?v ?p1 ?p2 ?p3 ?p4 ?p5 ?p6 ?k1 ?k2 ?k3 ?k4 ?k5 ?k6 ?k7 ?k8 (fun D' t1' t2' nx' h' tk' F' N' hsub' hT' => ?_); (case k1 => k_asm); (case k2 => k_asm); (case k3 => k_asm); (case k4 => k_asm); (case k5 => k_asm); (case k6 => ktr_room); (case k7 => ktr_units); (case k8 => first | rfl | assumption); (case p1 => first | exact TupG.of (by k_mem) | (refine TupG.up (by assumption) (fun _ _ e => e) ?_; (repeat (first | exact sub_refl | refine sub_cons ?_ | refine sub_app ?_ | refine sub_via (by assumption) ?_))) | (refine TupG.up (TupK.to (by assumption) (by assumption)) (fun _ _ e => e) ?_; (repeat (first | exact sub_refl | refine sub_cons ?_ | refine sub_app ?_ | refine sub_via (by assumption) ?_)))); (case v => assumption); (case p2 => first | assumption | decide | omega); (case p3 => first | assumption | decide | omega); (case p4 => first | assumption | decide | omega); (case p5 => first | assumption | decide | omega); (case p6 => first | assumption | decide | omega)))
  k_with "call ref" => (k_here; k_dflt (refine' product_txt ?v ?p1 ?p2 ?p3 ?p4 ?p5 ?p6 ?k1 ?k2 ?k3 ?k4 ?k5 ?k6 ?k7 ?k8 (fun t' h' tk' F' N' => ?_); (case k1 => k_asm); (case k2 => k_asm); (case k3 => k_asm); (case k4 => k_asm); (case k5 => k_asm); (case k6 => ktr_room); (case k7 => ktr_units); (case k8 => first | rfl | assumption); (case p1 => first | exact TupG.of (by k_mem) | (refine TupG.up (by assumption) (fun _ _ e => e) ?_; (repeat (first | exact sub_refl | refine sub_cons ?_ | refine sub_app ?_ | refine sub_via (by assumption) ?_))) | (refine TupG.up (TupK.to (by assumption) (by assumption)) (fun _ _ e => e) ?_; (repeat (first | exact sub_refl | refine sub_cons ?_ | refine sub_app ?_ | refine sub_via (by assumption) ?_)))); (case v => assumption); (case p2 => first | assumption | decide | omega); (case p3 => first | assumption | decide | omega); (case p4 => first | assumption | decide | omega); (case p5 => first | assumption | decide | omega); (case p6 => first | assumption | decide | omega)))
  k_with "compareOp NotEq ref ref" => (k_here; (rename Fr _ _ _ _ => iF); (rename News _ _ _ _ => iN); k_dflt (first | (refine' ne_same ?x ?y iF iN ?s1 sub_refl ?u ?_; (case x => first | assumption | exact TupK.to (by assumption) (by assumption)); (case y => exact TupG.of (by k_mem)); (case s1 => (repeat (first | exact sub_refl | refine sub_cons ?_ | refine sub_app ?_ | refine sub_via (by assumption) ?_))); (case u => ktr_units)) | (refine' ne_same ?x ?y iF iN ?s1 ?s2 ?u ?_; (case x => first | assumption | exact TupK.to (by assumption) (by assumption)); (case y => first | assumption | exact TupK.to (by assumption) (by assumption)); (case s1 => (repeat (first | exact sub_refl | refine sub_cons ?_ | refine sub_app ?_ | refine sub_via (by assumption) ?_))); (case s2 => (repeat (first | exact sub_refl | refine sub_cons ?_ | refine sub_app ?_ | refine sub_via (by assumption) ?_))); (case u => ktr_units))))
  k_with "subscriptTail Name Constant ref int" => (k_here; (rename Fr _ _ _ _ => iF); (rename News _ _ _ _ => iN); (first | with_reducible refine item0 (by assumption) iF iN (by (repeat (first | exact sub_refl | refine sub_cons ?_ | refine sub_app ?_ | refine sub_via (by assumption) ?_))) ?_ | with_reducible refine item1 (by assumption) iF iN (by (repeat (first | exact sub_refl | refine sub_cons ?_ | refine sub_app ?_ | refine sub_via (by assumption) ?_))) ?_ | with_reducible refine item0 (TupK.to (by assumption) (by assumption)) iF iN (by (repeat (first | exact sub_refl | refine sub_cons ?_ | refine sub_app ?_ | refine sub_via (by assumption) ?_))) ?_ | with_reducible refine item1 (TupK.to (by assumption) (by assumption)) iF iN (by (repeat (first | exact sub_refl | refine sub_cons ?_ | refine sub_app ?_ | refine sub_via (by assumption) ?_))) ?_))
  trivial
section
variable {w : World} {dp un : Nat} {gd : Option (List Code)} {base h₀ : Heap} {outer : List Env} {cn : Str} {cs : Scope} {L a : Addr} {ccd : Value} {s : Shared} {m mg mb : Str → Option Value} {mean : ExcName → Option Value} {news : List (Addr × Obj)} {E : Value → Shared → Prop} {Q : Value → Shared → Prop}

theorem law_w0 {oc : Value} {od : Option Addr} {name qual : Str} {params : Arguments} {bd : List Stmt} {sc : Scope} {dV kV doc pm cdv₀ ct cdv : Value} {an : Option Addr} {osl : Array (Option Value)} (hsc : (hd.heap_39 w.params).lookup 218 = some ⟨oc, od, .func (fnOf name qual params bd sc dV kV doc pm an cdv₀ ct), osl⟩)
    {fa C : Addr} {vs : List Value} {n : Nat} {Q₁ : Flow → Shared → Prop} {top k : Int} {ta tb : Tok} (ht0 : 0 ≤ top) (ht : top ≤ 20) (hk : top < k) (hk1 : k < 100000) (hc : m (Str.ofString "coins") = some (.ref C)) (h1 : m (Str.ofString "top") = some (.int top ta)) (h2 : m (Str.ofString "taken_now") = some (.int k tb)) (B : Below (A0 dp un gd []) base [] h₀) (F : Fr h₀ L s.heap m) (X : (hd.heap_39 w.params).In h₀) (N : News h₀ L s.heap [(C, PySem.W.listOf vs.toArray n)]) (T : TopP mg mb mean h₀) (XB : (hd.heap_39 w.params).In base) (TB : TopP mg mb mean base)
    (hroom : dp + 80 < recursionLimit) (hu : un + 400 < cLine)
    (hQ : ∀ m' h' tk', m' (Str.ofString "coins") = some (.ref C) → Fr h₀ L h' m' → News h₀ L h' [(C, PySem.W.listOf vs.toArray n)] → Q₁ .next { s with heap := h', toks := tk' }) :
    wpAny (model PySem.Challenge.rw_pq1399_01.row.prog w) ((A0 dp un gd []).deeper (envOf (Str.ofString "law") sc L fa cdv)) (execs ((thn (bd.drop 2)).drop 2) (envOf (Str.ofString "law") sc L fa cdv)) Q₁ E s := by
  have e := hsc.symm.trans (show (hd.heap_39 w.params).lookup 218 = _ by k_is)
  cases e
  clear hsc
  simp only [List.drop_succ_cons, List.drop_zero, thn, els]
  have F := fr_kst3 hc h1 h2 F
  have hM := mp_40
  have hval : chooseC top 1 k = some (0, 1) := chooseC_zero rfl ht0 hk
  have hMa : (top.natAbs : Int) ≤ MP := by omega
  have hMk : (k.natAbs : Int) ≤ MP := by omega
  have hs : ((1 : Int) = 1 ∧ 0 ≤ top ∧ top < takeC top 1 k) ∨ takeC top 1 k ≤ 6 := by
    refine .inl ⟨rfl, ht0, ?_⟩
    unfold takeC
    rw [if_neg (by omega)]
    exact hk
  clear hM
  k_steps
  refine hQ _ _ _ ?_ (by assumption) (news_one (by assumption) (by repeat (first | exact List.Mem.head _ | refine List.Mem.tail _ ?_ | refine mem_via (by assumption) ?_)))
  rfl

theorem law_w1 {oc : Value} {od : Option Addr} {name qual : Str} {params : Arguments} {bd : List Stmt} {sc : Scope} {dV kV doc pm cdv₀ ct cdv : Value} {an : Option Addr} {osl : Array (Option Value)} (hsc : (hd.heap_39 w.params).lookup 218 = some ⟨oc, od, .func (fnOf name qual params bd sc dV kV doc pm an cdv₀ ct), osl⟩)
    {fa C : Addr} {vs : List Value} {n : Nat} {Q₁ : Flow → Shared → Prop} {top few : Int} {ta tb : Tok} (ht0 : 4000 ≤ top) (ht : top ≤ 9000) (hf0 : 0 ≤ few) (hf4 : few ≤ 4) (hc : m (Str.ofString "coins") = some (.ref C)) (h1 : m (Str.ofString "top") = some (.int top ta)) (h2 : m (Str.ofString "few") = some (.int few tb)) (B : Below (A0 dp un gd []) base [] h₀) (F : Fr h₀ L s.heap m) (X : (hd.heap_39 w.params).In h₀) (N : News h₀ L s.heap [(C, PySem.W.listOf vs.toArray n)]) (T : TopP mg mb mean h₀) (XB : (hd.heap_39 w.params).In base) (TB : TopP mg mb mean base)
    (hroom : dp + 80 < recursionLimit) (hu : un + 400 < cLine)
    (hQ : ∀ m' h' tk', m' (Str.ofString "coins") = some (.ref C) → Fr h₀ L h' m' → News h₀ L h' [(C, PySem.W.listOf vs.toArray n)] → Q₁ .next { s with heap := h', toks := tk' }) :
    wpAny (model PySem.Challenge.rw_pq1399_01.row.prog w) ((A0 dp un gd []).deeper (envOf (Str.ofString "law") sc L fa cdv)) (execs ((thn (els (bd.drop 2))).drop 2) (envOf (Str.ofString "law") sc L fa cdv)) Q₁ E s := by
  have e := hsc.symm.trans (show (hd.heap_39 w.params).lookup 218 = _ by k_is)
  cases e
  clear hsc
  simp only [List.drop_succ_cons, List.drop_zero, thn, els]
  have F := fr_kst3 hc h1 h2 F
  have hM := mp_40
  have hw := way_one ht0 ht hf0 hf4
  have hMa : (top.natAbs : Int) ≤ MP := by omega
  have hMk : ((top - few).natAbs : Int) ≤ MP := by omega
  have hs : ((1 : Int) = 1 ∧ 0 ≤ top ∧ top < takeC top 1 (top - few)) ∨ takeC top 1 (top - few) ≤ 6 := by
    refine .inr ?_
    rw [(take_fold hf0 (by omega)).1]
    omega
  clear hM
  cases hL : lawC top 1 few.toNat with
  | none =>
    have hval := hw.trans hL
    clear hw
    k_steps
    refine hQ _ _ _ ?_ (by assumption) (news_one (by assumption) (by repeat (first | exact List.Mem.head _ | refine List.Mem.tail _ ?_ | refine mem_via (by assumption) ?_)))
    rfl
  | some r =>
    obtain ⟨u, v⟩ := r
    have hval := hw.trans hL
    clear hw
    k_steps
    refine hQ _ _ _ ?_ (by assumption) (news_one (by assumption) (by repeat (first | exact List.Mem.head _ | refine List.Mem.tail _ ?_ | refine mem_via (by assumption) ?_)))
    rfl

theorem law_w2 {oc : Value} {od : Option Addr} {name qual : Str} {params : Arguments} {bd : List Stmt} {sc : Scope} {dV kV doc pm cdv₀ ct cdv : Value} {an : Option Addr} {osl : Array (Option Value)} (hsc : (hd.heap_39 w.params).lookup 218 = some ⟨oc, od, .func (fnOf name qual params bd sc dV kV doc pm an cdv₀ ct), osl⟩)
    {fa C : Addr} {vs : List Value} {n : Nat} {Q₁ : Flow → Shared → Prop} {top few : Int} {f : Nat} {ta tb : Tok} (hf : f ≤ 2399 ∨ (2600 ≤ f ∧ f ≤ 2999)) (h7 : ((10 ^ f : Nat) : Int) + 7 ≤ top) (h15 : top ≤ ((10 ^ f : Nat) : Int) + 15) (hf0 : 0 ≤ few) (hf3 : few ≤ 3) (hc : m (Str.ofString "coins") = some (.ref C)) (h1 : m (Str.ofString "top") = some (.int top ta)) (h2 : m (Str.ofString "few") = some (.int few tb)) (B : Below (A0 dp un gd []) base [] h₀) (F : Fr h₀ L s.heap m) (X : (hd.heap_39 w.params).In h₀) (N : News h₀ L s.heap [(C, PySem.W.listOf vs.toArray n)]) (T : TopP mg mb mean h₀) (XB : (hd.heap_39 w.params).In base) (TB : TopP mg mb mean base)
    (hroom : dp + 80 < recursionLimit) (hu : un + 400 < cLine)
    (hQ : ∀ m' h' tk', m' (Str.ofString "coins") = some (.ref C) → Fr h₀ L h' m' → News h₀ L h' [(C, PySem.W.listOf vs.toArray n)] → Q₁ .next { s with heap := h', toks := tk' }) :
    wpAny (model PySem.Challenge.rw_pq1399_01.row.prog w) ((A0 dp un gd []).deeper (envOf (Str.ofString "law") sc L fa cdv)) (execs ((thn (els (els (bd.drop 2)))).drop 3) (envOf (Str.ofString "law") sc L fa cdv)) Q₁ E s := by
  have e := hsc.symm.trans (show (hd.heap_39 w.params).lookup 218 = _ by k_is)
  cases e
  clear hsc
  simp only [List.drop_succ_cons, List.drop_zero, thn, els]
  have F := fr_kst3 hc h1 h2 F
  have hM := mp_40
  obtain ⟨hMa, hw⟩ := way_two hf h7 h15 hf0 hf3
  have hMk : (few.natAbs : Int) ≤ MP := by omega
  have hs : ((1 : Int) = 1 ∧ 0 ≤ top ∧ top < takeC top 1 few) ∨ takeC top 1 few ≤ 6 := .inr (take_small hf0 (by omega))
  clear hM h7 h15
  cases hL : lawC top 1 few.toNat with
  | none =>
    have hval := hw.trans hL
    clear hw
    k_steps
    refine hQ _ _ _ ?_ (by assumption) (news_one (by assumption) (by repeat (first | exact List.Mem.head _ | refine List.Mem.tail _ ?_ | refine mem_via (by assumption) ?_)))
    rfl
  | some r =>
    obtain ⟨u, v⟩ := r
    have hval := hw.trans hL
    clear hw
    k_steps
    refine hQ _ _ _ ?_ (by assumption) (news_one (by assumption) (by repeat (first | exact List.Mem.head _ | refine List.Mem.tail _ ?_ | refine mem_via (by assumption) ?_)))
    rfl
end
end
section
theorem rg39 : True := by
  k_with_none
  trivial
theorem rg40 : True := by
  k_with "call ref" => (k_here; k_dflt (refine' choose_val ?p0 ?p1 ?p2 ?p3 ?p4 ?p5 ?p6 ?p7 ?p8 ?p9 ?k1 ?k2 ?k3 ?k4 ?k5 ?k6 ?k7 ?k8 (fun D' t1' t2' nx' h' tk' F' N' hsub' hT' => ?_); (case k1 => k_asm); (case k2 => k_asm); (case k3 => k_asm); (case k4 => k_asm); (case k5 => k_asm); (case k6 => ktr_room); (case k7 => ktr_units); (case k8 => first | rfl | assumption); (case p1 => first | exact TupG.of (by k_mem) | (refine TupG.up (by assumption) (fun _ _ e => e) ?_; (repeat (first | exact sub_refl | refine sub_cons ?_ | refine sub_app ?_ | refine sub_via (by assumption) ?_))) | (refine TupG.up (TupK.to (by assumption) (by assumption)) (fun _ _ e => e) ?_; (repeat (first | exact sub_refl | refine sub_cons ?_ | refine sub_app ?_ | refine sub_via (by assumption) ?_)))); (case p2 => first | exact TupG.of (by k_mem) | (refine TupG.up (by assumption) (fun _ _ e => e) ?_; (repeat (first | exact sub_refl | refine sub_cons ?_ | refine sub_app ?_ | refine sub_via (by assumption) ?_))) | (refine TupG.up (TupK.to (by assumption) (by assumption)) (fun _ _ e => e) ?_; (repeat (first | exact sub_refl | refine sub_cons ?_ | refine sub_app ?_ | refine sub_via (by assumption) ?_)))); (case p0 => assumption); (case p3 => first | assumption | decide | omega); (case p4 => first | assumption | decide | omega); (case p5 => first | assumption | decide | omega); (case p6 => first | assumption | decide | omega); (case p7 => first | assumption | decide | omega); (case p8 => first | assumption | decide | omega); (case p9 => first | assumption | decide | omega)); skip)
  k_with "call ref" => (k_here; k_dflt (refine' told_val ?v ?c ?p1 ?p2 ?p3 ?p4 ?p5 ?p6 ?p7 ?p8 ?p9 ?k1 ?k2 ?k3 ?k4 ?k5 ?xb ?tb ?k6 ?k7 ?k8 (fun D' t1' t2' nx' h' tk' F' N' hsub' hT' => ?_); (case k1 => k_asm); (case k2 => k_asm); (case k3 => k_asm); (case k4 => k_asm); (case k5 => k_asm); (case xb => assumption); (case tb => assumption); (case k6 => ktr_room); (case k7 => ktr_units); (case k8 => first | rfl | assumption); (case c => k_mem); (case p1 => first | exact TupG.of (by k_mem) | (refine TupG.up (by assumption) (fun _ _ e => e) ?_; (repeat (first | exact sub_refl | refine sub_cons ?_ | refine sub_app ?_ | refine sub_via (by assumption) ?_))) | (refine TupG.up (TupK.to (by assumption) (by assumption)) (fun _ _ e => e) ?_; (repeat (first | exact sub_refl | refine sub_cons ?_ | refine sub_app ?_ | refine sub_via (by assumption) ?_)))); (case p2 => first | exact TupG.of (by k_mem) | (refine TupG.up (by assumption) (fun _ _ e => e) ?_; (repeat (first | exact sub_refl | refine sub_cons ?_ | refine sub_app ?_ | refine sub_via (by assumption) ?_))) | (refine TupG.up (TupK.to (by assumption) (by assumption)) (fun _ _ e => e) ?_; (repeat (first | exact sub_refl | refine sub_cons ?_ | refine sub_app ?_ | refine sub_via (by assumption) ?_)))); (case v => assumption); (case p3 => first | assumption | decide | omega); (case p4 => first | assumption | decide | omega); (case p5 => first | assumption | decide | omega); (case p6 => first | assumption | decide | omega); (case p7 => first | assumption | decide | omega); (case p8 => first | assumption | decide | omega); (case p9 => first | assumption | decide | omega)))
  k_with "call ref" => (k_here; k_dflt (refine' told_txt ?v ?c ?p1 ?p2 ?p3 ?p4 ?p5 ?p6 ?p7 ?p8 ?p9 ?k1 ?k2 ?k3 ?k4 ?k5 ?xb ?tb ?k6 ?k7 ?k8 (fun t' h' tk' F' N' => ?_); (case k1 => k_asm); (case k2 => k_asm); (case k3 => k_asm); (case k4 => k_asm); (case k5 => k_asm); (case xb => assumption); (case tb => assumption); (case k6 => ktr_room); (case k7 => ktr_units); (case k8 => first | rfl | assumption); (case c => k_mem); (case p1 => first | exact TupG.of (by k_mem) | (refine TupG.up (by assumption) (fun _ _ e => e) ?_; (repeat (first | exact sub_refl | refine sub_cons ?_ | refine sub_app ?_ | refine sub_via (by assumption) ?_))) | (refine TupG.up (TupK.to (by assumption) (by assumption)) (fun _ _ e => e) ?_; (repeat (first | exact sub_refl | refine sub_cons ?_ | refine sub_app ?_ | refine sub_via (by assumption) ?_)))); (case p2 => first | exact TupG.of (by k_mem) | (refine TupG.up (by assumption) (fun _ _ e => e) ?_; (repeat (first | exact sub_refl | refine sub_cons ?_ | refine sub_app ?_ | refine sub_via (by assumption) ?_))) | (refine TupG.up (TupK.to (by assumption) (by assumption)) (fun _ _ e => e) ?_; (repeat (first | exact sub_refl | refine sub_cons ?_ | refine sub_app ?_ | refine sub_via (by assumption) ?_)))); (case v => assumption); (case p3 => first | assumption | decide | omega); (case p4 => first | assumption | decide | omega); (case p5 => first | assumption | decide | omega); (case p6 => first | assumption | decide | omega); (case p7 => first | assumption | decide | omega); (case p8 => first | assumption | decide | omega); (case p9 => first | assumption | decide | omega)))
  k_with "call ref" => (k_here; k_dflt (refine' product_val ?v ?p1 ?p2 ?p3 ?p4 ?p5 ?p6 ?k1 ?k2 ?k3 ?k4 ?k5 ?k6 ?k7 ?k8 (fun D' t1' t2' nx' h' tk' F' N' hsub' hT' => ?_); (case k1 => k_asm); (case k2 => k_asm); (case k3 => k_asm); (case k4 => k_asm); (case k5 => k_asm); (case k6 => ktr_room); (case k7 => ktr_units); (case k8 => first | rfl | assumption); (case p1 => first | exact TupG.of (by k_mem) | (refine TupG.up (by assumption) (fun _ _ e => e) ?_; (repeat (first | exact sub_refl | refine sub_cons ?_ | refine sub_app ?_ | refine sub_via (by assumption) ?_))) | (refine TupG.up (TupK.to (by assumption) (by assumption)) (fun _ _ e => e) ?_; (repeat (first | exact sub_refl | refine sub_cons ?_ | refine sub_app ?_ | refine sub_via (by assumption) ?_)))); (case v => assumption); (case p2 => first | assumption | decide | omega); (case p3 => first | assumption | decide | omega); (case p4 => first | assumption | decide | omega); (case p5 => first | assumption | decide | omega); (case p6 => first | assumption | decide | omega)))
  k_with "call ref" => (k_here; k_dflt (refine' product_txt ?v ?p1 ?p2 ?p3 ?p4 ?p5 ?p6 ?k1 ?k2 ?k3 ?k4 ?k5 ?k6 ?k7 ?k8 (fun t' h' tk' F' N' => ?_); (case k1 => k_asm); (case k2 => k_asm); (case k3 => k_asm); (case k4 => k_asm); (case k5 => k_asm); (case k6 => ktr_room); (case k7 => ktr_units); (case k8 => first | rfl | assumption); (case p1 => first | exact TupG.of (by k_mem) | (refine TupG.up (by assumption) (fun _ _ e => e) ?_; (repeat (first | exact sub_refl | refine sub_cons ?_ | refine sub_app ?_ | refine sub_via (by assumption) ?_))) | (refine TupG.up (TupK.to (by assumption) (by assumption)) (fun _ _ e => e) ?_; (repeat (first | exact sub_refl | refine sub_cons ?_ | refine sub_app ?_ | refine sub_via (by assumption) ?_)))); (case v => assumption); (case p2 => first | assumption | decide | omega); (case p3 => first | assumption | decide | omega); (case p4 => first | assumption | decide | omega); (case p5 => first | assumption | decide | omega); (case p6 => first | assumption | decide | omega)))
  k_with "compareOp NotEq ref ref" => (k_here; (rename Fr _ _ _ _ => iF); (rename News _ _ _ _ => iN); k_dflt (first | (refine' ne_same ?x ?y iF iN ?s1 sub_refl ?u ?_; (case x => first | assumption | exact TupK.to (by assumption) (by assumption)); (case y => exact TupG.of (by k_mem)); (case s1 => (repeat (first | exact sub_refl | refine sub_cons ?_ | refine sub_app ?_ | refine sub_via (by assumption) ?_))); (case u => ktr_units)) | (refine' ne_same ?x ?y iF iN ?s1 ?s2 ?u ?_; (case x => first | assumption | exact TupK.to (by assumption) (by assumption)); (case y => first | assumption | exact TupK.to (by assumption) (by assumption)); (case s1 => (repeat (first | exact sub_refl | refine sub_cons ?_ | refine sub_app ?_ | refine sub_via (by assumption) ?_))); (case s2 => (repeat (first | exact sub_refl | refine sub_cons ?_ | refine sub_app ?_ | refine sub_via (by assumption) ?_))); (case u => ktr_units))))
  k_with "subscriptTail Name Constant ref int" => (k_here; (rename Fr _ _ _ _ => iF); (rename News _ _ _ _ => iN); (first | with_reducible refine item0 (by assumption) iF iN (by (repeat (first | exact sub_refl | refine sub_cons ?_ | refine sub_app ?_ | refine sub_via (by assumption) ?_))) ?_ | with_reducible refine item1 (by assumption) iF iN (by (repeat (first | exact sub_refl | refine sub_cons ?_ | refine sub_app ?_ | refine sub_via (by assumption) ?_))) ?_ | with_reducible refine item0 (TupK.to (by assumption) (by assumption)) iF iN (by (repeat (first | exact sub_refl | refine sub_cons ?_ | refine sub_app ?_ | refine sub_via (by assumption) ?_))) ?_ | with_reducible refine item1 (TupK.to (by assumption) (by assumption)) iF iN (by (repeat (first | exact sub_refl | refine sub_cons ?_ | refine sub_app ?_ | refine sub_via (by assumption) ?_))) ?_))
  k_with "exec If" => (k_here; (with_reducible show wpAny _ _ (exec (Stmt.If (Expr.BoolOp _ _ _) _ _ _) _) _ _ _); refine Halt.out ?_)
  trivial
section
variable {w : World} {dp un : Nat} {gd : Option (List Code)} {base h₀ : Heap} {outer : List Env} {cn : Str} {cs : Scope} {L a : Addr} {ccd : Value} {s : Shared} {m mg mb : Str → Option Value} {mean : ExcName → Option Value} {news : List (Addr × Obj)} {E : Value → Shared → Prop} {Q : Value → Shared → Prop}

theorem law_w3 {oc : Value} {od : Option Addr} {name qual : Str} {params : Arguments} {bd : List Stmt} {sc : Scope} {dV kV doc pm cdv₀ ct cdv : Value} {an : Option Addr} {osl : Array (Option Value)} (hsc : (hd.heap_39 w.params).lookup 218 = some ⟨oc, od, .func (fnOf name qual params bd sc dV kV doc pm an cdv₀ ct), osl⟩)
    {fa C : Addr} {vs : List Value} {n : Nat} {Q₁ : Flow → Shared → Prop} {a b few : Int} {Dx : Addr} {t1 t2 ta : Tok} (hx : TupG h₀ news Dx a b t1 t2) (hCm : (C, PySem.W.listOf vs.toArray n) ∈ news) (hb : 0 < b) (hb7 : b ≤ 7) (ha : a.natAbs ≤ 30) (hf0 : 0 ≤ few) (hf6 : few < 7)
    {u v : Int} (hval : chooseC a b few = some (u, v)) (hlaw : lawC a b few.toNat = some (u, v)) (hpas : b = 1 → few < a → 0 < few → ∃ u' v', lawC (a - 1) 1 (few - 1).toNat = some (u', v') ∧ chooseC (a - 1) 1 few = some (u - u', 1))
    (hc : m (Str.ofString "coins") = some (.ref C)) (h1 : m (Str.ofString "x") = some (.ref Dx)) (h2 : m (Str.ofString "few") = some (.int few ta)) (B : Below (A0 dp un gd []) base [] h₀) (F : Fr h₀ L s.heap m) (X : (hd.heap_39 w.params).In h₀) (N : News h₀ L s.heap news) (T : TopP mg mb mean h₀) (XB : (hd.heap_39 w.params).In base) (TB : TopP mg mb mean base)
    (hroom : dp + 80 < recursionLimit) (hu : un + 400 < cLine)
    (hQ : ∀ m' h' tk', m' (Str.ofString "coins") = some (.ref C) → Fr h₀ L h' m' → News h₀ L h' [(C, PySem.W.listOf vs.toArray n)] → Q₁ .next { s with heap := h', toks := tk' }) :
    wpAny (model PySem.Challenge.rw_pq1399_01.row.prog w) ((A0 dp un gd []).deeper (envOf (Str.ofString "law") sc L fa cdv)) (execs ((els (els (els (bd.drop 2)))).drop 2) (envOf (Str.ofString "law") sc L fa cdv)) Q₁ E s := by
  have e := hsc.symm.trans (show (hd.heap_39 w.params).lookup 218 = _ by k_is)
  cases e
  clear hsc
  simp only [List.drop_succ_cons, List.drop_zero, thn, els]
  have F := fr_kst3 hc h1 h2 F
  have hM := mp_40
  have hMa : (a.natAbs : Int) ≤ MP := by omega
  have hMb : ((a - 1).natAbs : Int) ≤ MP := by omega
  have hMk : (few.natAbs : Int) ≤ MP := by omega
  have hs : (b = 1 ∧ 0 ≤ a ∧ a < takeC a b few) ∨ takeC a b few ≤ 6 := .inr (take_small hf0 (by omega))
  have hs' : ((1 : Int) = 1 ∧ 0 ≤ a - 1 ∧ a - 1 < takeC (a - 1) 1 few) ∨ takeC (a - 1) 1 few ≤ 6 := .inr (take_small hf0 (by omega))
  clear hM
  k_steps
  refine Halt.inn ?_
  refine wpAny_If ?_
  by_cases hP : b = 1 ∧ few < a ∧ 0 < few
  · obtain ⟨hb1, hfa, hf1⟩ := hP
    obtain ⟨u', v', hl', hc'⟩ := hpas hb1 hfa hf1
    clear hpas
    k_steps
    all_goals (
      refine hQ _ _ _ ?_ (by assumption) (news_one (by assumption) (by repeat (first | assumption | exact List.Mem.head _ | refine List.Mem.tail _ ?_ | refine mem_via (by assumption) ?_)))
      rfl)
  · clear hpas
    k_steps
    all_goals (
      refine hQ _ _ _ ?_ (by assumption) (news_one (by assumption) (by repeat (first | assumption | exact List.Mem.head _ | refine List.Mem.tail _ ?_ | refine mem_via (by assumption) ?_)))
      rfl)
end
end
section
theorem rg41 : True := by
  k_with_none
  trivial
section
variable {w : World} {dp un : Nat} {gd : Option (List Code)} {base h₀ : Heap} {outer : List Env} {cn : Str} {cs : Scope} {L a : Addr} {ccd : Value} {s : Shared} {m mg mb : Str → Option Value} {mean : ExcName → Option Value} {news : List (Addr × Obj)} {E : Value → Shared → Prop} {Q : Value → Shared → Prop}

theorem coin_spec2 {C : Addr} {x : Addr × Obj} {vs : List Value} {ns : List Int} {n : Nat} {many : Int} {tm : Tok} (hv : IntsAre vs ns) (hlen : ns.length ≤ 60) (hm : 0 < many) (hne : C < x.1) (B : Below (A0 dp un gd outer) base outer h₀) (F : Fr h₀ L s.heap m) (X : (hd.heap_39 w.params).In h₀) (N : News h₀ L s.heap [x, (C, PySem.W.listOf vs.toArray n)]) (T : TopP mg mb mean h₀)
    (hroom : dp + 20 < recursionLimit) (hu : un + 120 < cLine) (hk : cs.kind = .function)
    (hret : ∀ r t vs' ns' n' h' tk', 0 ≤ r → r < many → IntsAre vs' ns' → ns'.length ≤ 60 → Fr h₀ L h' m → News h₀ L h' [(C, PySem.W.listOf vs'.toArray n'), x] → Q (.int r t) { s with heap := h', toks := tk' }) :
    wpAny (model PySem.Challenge.rw_pq1399_01.row.prog w) ((A0 dp un gd outer).deeper (envOf cn cs L a ccd)) (call (.ref 190) [.ref C, .int many tm]) Q E s :=
  coin_spec hv hlen hm (fun p hp => by rw [List.mem_singleton.mp hp]; exact Nat.ne_of_gt hne) B F X (news_swap N) T hroom hu hk hret
theorem ne_lt1 {C X : Addr} {o : Obj} (h : C < X) : ∀ p ∈ [(X, o)], p.1 ≠ C := ne_one (Nat.ne_of_gt h)
theorem menu_item {prog : Program} {w : World} {A : Around} {E : Value → Shared → Prop} {s : Shared} {g : Heap} {L C : Addr} {ns : List (Addr × Obj)} {value slice : PySem.Expr} {u t t' : Tok} {i x y : Int} {n : Nat} {Q : Value → Shared → Prop} (N : News g L s.heap ns) (hC : (C, PySem.W.listOf #[.int x t, .int y t'] n) ∈ ns) (h0 : 0 ≤ i) (h2 : i < 2) (h : ∀ z t, z = x ∨ z = y → Q (.int z t) s)
    (hs : subscripted slice false (.ref C) (.int i u) = operate [.ref C, .int i u] (getItem (.ref C) (.int i u)) := by with_unfolding_all rfl) :
    wpAny (model prog w) A (subscriptTail value slice (.ref C) (.int i u)) Q E s := by
  have hi : i = 0 ∨ i = 1 := by omega
  rcases hi with rfl | rfl
  · exact args_item (its := [.int x t, .int y t']) N hC (by decide) (by decide) rfl (h _ _ (.inl rfl)) hs
  · exact args_item (its := [.int x t, .int y t']) N hC (by decide) (by decide) rfl (h _ _ (.inr rfl)) hs
theorem law_w2f {oc : Value} {od : Option Addr} {name qual : Str} {params : Arguments} {bd : List Stmt} {sc : Scope} {dV kV doc pm cdv₀ ct cdv : Value} {an : Option Addr} {osl : Array (Option Value)} (hsc : (hd.heap_39 w.params).lookup 218 = some ⟨oc, od, .func (fnOf name qual params bd sc dV kV doc pm an cdv₀ ct), osl⟩)
    {fa C : Addr} {vs : List Value} {n : Nat} {Q₁ : Flow → Shared → Prop} {top few fig : Int} {ta tb tf : Tok} (hc : m (Str.ofString "coins") = some (.ref C)) (h1 : m (Str.ofString "top") = some (.int top ta)) (h2 : m (Str.ofString "few") = some (.int few tb)) (h3 : m (Str.ofString "figures") = some (.int fig tf))
    (hf0 : 0 ≤ few) (hf3 : few ≤ 3) (hf : (0 ≤ fig ∧ fig ≤ 2399) ∨ (2600 ≤ fig ∧ fig ≤ 2999)) (h7 : (10 : Int) ^ fig.toNat + 7 ≤ top) (h15 : top ≤ (10 : Int) ^ fig.toNat + 15) (B : Below (A0 dp un gd []) base [] h₀) (F : Fr h₀ L s.heap m) (X : (hd.heap_39 w.params).In h₀) (N : News h₀ L s.heap [(C, PySem.W.listOf vs.toArray n)]) (T : TopP mg mb mean h₀) (XB : (hd.heap_39 w.params).In base) (TB : TopP mg mb mean base)
    (hroom : dp + 80 < recursionLimit) (hu : un + 400 < cLine)
    (hQ : ∀ m' h' tk', m' (Str.ofString "coins") = some (.ref C) → Fr h₀ L h' m' → News h₀ L h' [(C, PySem.W.listOf vs.toArray n)] → Q₁ .next { s with heap := h', toks := tk' }) :
    wpAny (model PySem.Challenge.rw_pq1399_01.row.prog w) ((A0 dp un gd []).deeper (envOf (Str.ofString "law") sc L fa cdv)) (execs ((thn (els (els (bd.drop 2)))).drop 3) (envOf (Str.ofString "law") sc L fa cdv)) Q₁ E s := by
  have e : ((10 ^ fig.toNat : Nat) : Int) = (10 : Int) ^ fig.toNat := Int.natCast_pow 10 fig.toNat
  exact law_w2 (f := fig.toNat) hsc (by omega) (by rw [e]; exact h7) (by rw [e]; exact h15) hf0 hf3 hc h1 h2 B F X N T XB TB hroom hu hQ
theorem law_w3f {oc : Value} {od : Option Addr} {name qual : Str} {params : Arguments} {bd : List Stmt} {sc : Scope} {dV kV doc pm cdv₀ ct cdv : Value} {an : Option Addr} {osl : Array (Option Value)} (hsc : (hd.heap_39 w.params).lookup 218 = some ⟨oc, od, .func (fnOf name qual params bd sc dV kV doc pm an cdv₀ ct), osl⟩)
    {fa C : Addr} {vs : List Value} {n : Nat} {Q₁ : Flow → Shared → Prop} {a b few r1 r2 : Int} {Dx : Addr} {t1 t2 ta : Tok} (hc : m (Str.ofString "coins") = some (.ref C)) (h1 : m (Str.ofString "x") = some (.ref Dx)) (h2 : m (Str.ofString "few") = some (.int few ta)) (hx : TupG h₀ news Dx a b t1 t2) (hCm : (C, PySem.W.listOf vs.toArray n) ∈ news)
    (hr : redc (r1 - 30) (1 + r2) = (a, b)) (g1 : 0 ≤ r1) (g2 : r1 < 60) (g3 : 0 ≤ r2) (g4 : r2 < 7) (hf0 : 0 ≤ few) (hf6 : few < 7) (B : Below (A0 dp un gd []) base [] h₀) (F : Fr h₀ L s.heap m) (X : (hd.heap_39 w.params).In h₀) (N : News h₀ L s.heap news) (T : TopP mg mb mean h₀) (XB : (hd.heap_39 w.params).In base) (TB : TopP mg mb mean base)
    (hroom : dp + 80 < recursionLimit) (hu : un + 400 < cLine)
    (hQ : ∀ m' h' tk', m' (Str.ofString "coins") = some (.ref C) → Fr h₀ L h' m' → News h₀ L h' [(C, PySem.W.listOf vs.toArray n)] → Q₁ .next { s with heap := h', toks := tk' }) :
    wpAny (model PySem.Challenge.rw_pq1399_01.row.prog w) ((A0 dp un gd []).deeper (envOf (Str.ofString "law") sc L fa cdv)) (execs ((els (els (els (bd.drop 2)))).drop 2) (envOf (Str.ofString "law") sc L fa cdv)) Q₁ E s := by
  obtain ⟨q1, q2, q3, u, v, q4, q5, q6⟩ := way_three g1 g2 g3 g4 hf0 hf6 hr
  exact law_w3 hsc hx hCm q1 q2 q3 hf0 hf6 q4 q5 q6 hc h1 h2 B F X N T XB TB hroom hu hQ

theorem rg42 : True := by
  k_with "call ref" => (k_here; k_dflt (refine' coin_spec2 ?v ?l ?m ?n ?k1 ?k2 ?k3 ?k4 ?k5 ?k6 ?k7 ?k8 (fun r' t' vs' ns' n' h' tk' hr0' hr1' hv' hl' F' N' => ?_); (case k1 => k_asm); (case k2 => k_asm); (case k3 => k_asm); (case k4 => k_asm); (case k5 => k_asm); (case k6 => ktr_room); (case k7 => ktr_units); (case k8 => first | rfl | assumption); (case v => assumption); (case l => assumption); (case m => decide); (case n => first | assumption | exact And.left (by assumption) | (have l9 : ∀ z ∈ _, Prod.fst z < _ := (by assumption); exact l9 _ (.head _)))))
  k_with "call ref" => (k_here; k_dflt (refine' coin_spec ?v ?l ?m ?n ?k1 ?k2 ?k3 ?k4 ?k5 ?k6 ?k7 ?k8 (fun r' t' vs' ns' n' h' tk' hr0' hr1' hv' hl' F' N' => ?_); (case k1 => k_asm); (case k2 => k_asm); (case k3 => k_asm); (case k4 => k_asm); (case k5 => k_asm); (case k6 => ktr_room); (case k7 => ktr_units); (case k8 => first | rfl | assumption); (case v => assumption); (case l => assumption); (case m => decide); (case n => first | exact ne_nil | exact ne_lt1 (by assumption))))
  k_with "subscriptTail" => (k_here; (rename News _ _ _ _ => iN); k_dflt (refine' menu_item iN ?m ?a ?b ?_; (case m => k_mem); (case a => assumption); (case b => assumption)); intro z9 t9 hz9)
  k_with "binaryOp Pow int int" => (k_here; k_dflt (refine' pow_int_small ?a ?b ?c ?_; (case a => omega); (case b => omega); (case c => decide)))
  k_with "call ref" => (k_here; k_dflt (refine' coins_spec ?p0 ?p1 ?p2 ?k1 ?k2 ?k3 ?k4 ?k5 ?k6 ?k7 ?k8 (fun C' us' ms' n' h' tk' hv' hl' F' N' l' => ?_); (case k1 => k_asm); (case k2 => k_asm); (case k3 => k_asm); (case k4 => k_asm); (case k5 => k_asm); (case k6 => ktr_room); (case k7 => ktr_units); (case k8 => first | rfl | assumption); (case p0 => assumption); (case p1 => assumption); (case p2 => assumption)); skip)
  k_with "call ref" => (k_here; k_dflt (refine' least_spec ?p0 ?p1 ?k1 ?k2 ?k3 ?k4 ?k5 ?k6 ?k7 ?k8 (fun p' q' hmk' D' t1' t2' n' h' tk' F' N' l' => ?_); (case k1 => k_asm); (case k2 => k_asm); (case k3 => k_asm); (case k4 => k_asm); (case k5 => k_asm); (case k6 => ktr_room); (case k7 => ktr_units); (case k8 => first | rfl | assumption); (case p0 => first | assumption | omega); (case p1 => first | assumption | omega)); skip)
  k_with "execs cons" => (k_here; (first | (with_reducible show wpAny _ _ (execs (Stmt.If (Expr.Compare (Expr.Call _ _ _ _) [CmpOp.NotEq] _ _) _ _ _ :: _) _) _ _ _) | (with_reducible show wpAny _ _ (execs (Stmt.Assign [Expr.Name (Str.ofString "due") _] _ _ :: _) _) _ _ _) | (with_reducible show wpAny _ _ (execs (Stmt.Assign [Expr.Name (Str.ofString "number_now") _] _ _ :: _) _) _ _ _)); refine Halt.out ?_)
  trivial
theorem law_body {oc : Value} {od : Option Addr} {name qual : Str} {params : Arguments} {bd : List Stmt} {sc : Scope} {dV kV doc pm cdv₀ ct cdv : Value} {an : Option Addr} {osl : Array (Option Value)} (hsc : (hd.heap_39 w.params).lookup 218 = some ⟨oc, od, .func (fnOf name qual params bd sc dV kV doc pm an cdv₀ ct), osl⟩)
    {fa S : Addr} {vs : List Value} {ns : List Int} {Q₁ : Flow → Shared → Prop} (hL : h₀.IsList S vs.toArray) (hI : IntsAre vs ns) (hlen : ns.length ≤ 63) (hm : m (Str.ofString "script") = some (.ref S)) (B : Below (A0 dp un gd []) base [] h₀) (F : Fr h₀ L s.heap m) (X : (hd.heap_39 w.params).In h₀) (N : News h₀ L s.heap []) (T : TopP mg mb mean h₀) (XB : (hd.heap_39 w.params).In base) (TB : TopP mg mb mean base)
    (hroom : dp + 80 < recursionLimit) (hu : un + 400 < cLine) (hE : PassesOwn (model PySem.Challenge.rw_pq1399_01.row.prog w) ((A0 dp un gd []).deeper (envOf (Str.ofString "law") sc L fa cdv)) (envOf (Str.ofString "law") sc L fa cdv) E)
    (hQ : ∀ m' nx h' tk', Fr h₀ L h' m' → News h₀ L h' nx → Q₁ (.ret (.bool true)) { s with heap := h', toks := tk' }) :
    wpAny (model PySem.Challenge.rw_pq1399_01.row.prog w) ((A0 dp un gd []).deeper (envOf (Str.ofString "law") sc L fa cdv)) (execs bd (envOf (Str.ofString "law") sc L fa cdv)) Q₁ E s := by
  have hs0 := hsc
  have e := hsc.symm.trans (show (hd.heap_39 w.params).lookup 218 = _ by k_is)
  cases e
  clear hsc
  have F := fr_kst1 hm F
  k_steps
  · rename Fr _ L _ _ => F₉
    rename News _ L _ _ => N₉
    refine Halt.inn (law_w0 hs0 ?_ ?_ ?_ ?_ (by rfl) (by rfl) (by rfl) B F₉ X N₉ T XB TB hroom hu ?_)
    · omega
    · omega
    · omega
    · omega
    · intro m' h' tk' hc' F' N'
      k_steps
      refine Halt.inn (law_tail hs0 (by assumption) (by assumption) hc' B F' X N' T XB TB hroom hu hE ?_)
      intro m'' nx'' h'' tk'' F'' N''
      exact hQ _ _ _ _ F'' N''
  · rename Fr _ L _ _ => F₉
    rename News _ L _ _ => N₉
    refine Halt.inn (law_w1 hs0 ?_ ?_ ?_ ?_ (by rfl) (by rfl) (by rfl) B F₉ X N₉ T XB TB hroom hu ?_)
    · omega
    · omega
    · omega
    · omega
    · intro m' h' tk' hc' F' N'
      k_steps
      refine Halt.inn (law_tail hs0 (by assumption) (by assumption) hc' B F' X N' T XB TB hroom hu hE ?_)
      intro m'' nx'' h'' tk'' F'' N''
      exact hQ _ _ _ _ F'' N''
  · rename Fr _ L _ _ => F₉
    rename News _ L _ _ => N₉
    refine Halt.inn (law_w2f hs0 (by rfl) (by rfl) (by rfl) (by rfl) ?_ ?_ ?_ ?_ ?_ B F₉ X (news_one N₉ (.head _)) T XB TB hroom hu ?_)
    · omega
    · omega
    · omega
    · generalize (10 : Int) ^ _ = z8
      omega
    · generalize (10 : Int) ^ _ = z8
      omega
    · intro m' h' tk' hc' F' N'
      k_steps
      refine Halt.inn (law_tail hs0 (by assumption) (by assumption) hc' B F' X N' T XB TB hroom hu hE ?_)
      intro m'' nx'' h'' tk'' F'' N''
      exact hQ _ _ _ _ F'' N''
  · rename Fr _ L _ _ => F₉
    rename News _ L _ _ => N₉
    refine Halt.inn (law_w3f hs0 (by rfl) (by rfl) (by rfl) (by exact TupG.of (by k_mem)) (.head _) (by assumption) ?_ ?_ ?_ ?_ ?_ ?_ B F₉ X N₉ T XB TB hroom hu ?_)
    · assumption
    · assumption
    · assumption
    · assumption
    · assumption
    · assumption
    · intro m' h' tk' hc' F' N'
      k_steps
      refine Halt.inn (law_tail hs0 (by assumption) (by assumption) hc' B F' X N' T XB TB hroom hu hE ?_)
      intro m'' nx'' h'' tk'' F'' N''
      exact hQ _ _ _ _ F'' N''
end
end
theorem rg : True := by
  k_with_none
  trivial
end Mine

set_option maxRecDepth 100000 in
set_option maxHeartbeats 8000000 in
theorem PySem.Challenge.cw_pq1399_01_holds : PySem.Challenge.rw_pq1399_01.Holds := by
  refine Mine.hd ?_
  k_go0
  (all_goals try k_fold)
  rename Top _ _ _ _ _ _ => T
  rename Fr _ _ _ _ => F
  rename News _ _ _ _ => N
  rename IntsAre _ _ => hI
  rename Frag.In _ _ => X
  rename Below _ _ _ _ => B
  refine Mine.law_body (dp := 1 + claimMargin) (un := 4) (gd := some []) (base := _) (by k_is) (by assumption) hI ?_ (by rfl) B F X N T X T ?_ ?_ ?_ ?_
  · omega
  · first | ktr_room | decide
  · first | ktr_units | decide
  · first | passes_own | with_unfolding_all passes_own
  · intro m' nx h' tk' F' N'
    dsimp only
    k_steps
